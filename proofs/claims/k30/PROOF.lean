import PyProof.Rows.All
import Wide.All
import OpenK.AllK
import Wide.FinOn
import KE.KStateDown
import Lean
import HandS.Base
import HandS.Call
import HandS.Ends
import HandS.More
import HandS.Words
import HandS.WordsExc
import HandS.Defaults
import HandS.ExcIs
import HandS.Head0
import HandS.Head1
import HandS.Head2
import HandS.HeadEnd
import HandS.HeadHook1
import HandS.HeadHook2
import HandS.HeadHook3
import HandS.Codes
import HandS.ExcInit
import KE.KExcSuper
import HandS.ExcSuper
import HandS.ExcCtx
import HandS.SuiteRaise
import HandS.RaiseFrom
import HandS.RaiseMore
import HandS.ForMost
import HandS.Walk
import HandS.Exc
import HandS.ExcOwn
import HandS.TryOnly
import HandS.Deep
import HandS.DictComp
import HandS.Conv
import HandS.Small
import HandS.Rev
import HandS.RevTup
import PyProof.ListNew
import HandS.IsInst
import HandS.TupAny
import HandS.SortInts
import HandS.SortRule
import HandS.Sort
import HandS.SortOrd
import PyProof.Rows.SortKeyStr
import PyProof.Rows.SortShellAny
import PyProof.Rows.StrMeet
import HandS.TupLe
import KE.DataFind
import HandS.Text
import HandS.FStr
import KE.GoesEnum
import HandS.Flow
import HandS.HotCalls
import KE.GoesMore
import KE.GoesZip
import HandS.Style
import HandS.Replace
import HandS.WideBits
import KE.KIsAll
import KE.KTryMore
import HandS.ExcField
import HandS.Hot
import HandS.Comp
import PyProof.ReprRoads
import PyProof.ReprLen
import PySem.Challenge.RW_pairswap_k30_webs_and_who_may_meet
set_option Elab.async false
set_option autoImplicit false
set_option linter.all false
set_option maxRecDepth 100000
namespace He
open PySem PySem.Spec PyProof.Rows L2
def excB (K : PySem.W.Frag) (x : Str) : Bool :=
  eqO (PySem.W.findIn K (.ref (ga K x)) "__getattribute__") (some (some (.builtin "BaseException.__getattribute__"))) && (eqO (PySem.W.findIn K (.ref (ga K x)) "__getattr__") (some none) && (decide (PySem.W.subIn K (.ref (ga K x)) (.type "BaseException") = some true)
  && (PySem.W.hasDictIn K (ga K x) && (eqO (PySem.W.findIn K (.ref (ga K x)) "__class__") (some (some (.builtin "object.__class__"))) && (eqO (PySem.W.specialIn K (.builtin "object.__class__") "__get__") (some (some (.builtin "getset_descriptor.__get__")))
  && (decide (PySem.W.takesIn K (.builtin "object.__class__") = some true) && decide (PySem.W.mroIn K (ga K x) (.type "object") = some true)))))))
theorem excB_ok {K : PySem.W.Frag} {x : Str} (h : excB K x = true) : ExcC K (ga K x) := by
  obtain ⟨h1, h⟩ := ba h
  obtain ⟨h2, h⟩ := ba h
  obtain ⟨h3, h⟩ := ba h
  obtain ⟨h4, h⟩ := ba h
  obtain ⟨h5, h⟩ := ba h
  obtain ⟨h6, h⟩ := ba h
  obtain ⟨h7, h8⟩ := ba h
  exact ⟨eqO_ok h1, eqO_ok h2, of_decide_eq_true h3, h4, eqO_ok h5, eqO_ok h6, of_decide_eq_true h7, of_decide_eq_true h8⟩
def subN (i j : Nat) : Bool := i == j || j == 0
def pairB (K : PySem.W.Frag) (p q : Nat × Str) : Bool := decide (PySem.W.kitOne K (.ref (ga K p.2)) (.ref (ga K q.2)) = some (subN p.1 q.1)) && decide (PySem.W.exmOne K (.ref (ga K p.2)) (.ref (ga K q.2)) = some (subN p.1 q.1))
def exsB (xs : List (Nat × Str)) (K : PySem.W.Frag) : Bool := xs.all fun p => excB K p.2 && (decide (PySem.W.kitOne K (.ref (ga K p.2)) (.type "ValueError") = some true) && xs.all fun q => pairB K p q)
abbrev AlQ : Type := AlD × Bool
def obsQ (fa : List Fa) (fn : List DefD) (ex : PySem.W.Frag → Bool) (K : PySem.W.Frag) : AlQ := (obsD fa fn K, ex K)
def obsQG (n : Nat) (fa : List Fa) (fn : List DefD) (ex : PySem.W.Frag → Bool) (g : Addr → Option Obj) : AlQ := obsQ fa fn ex (frG g (asD g n))
structure SaysQ (fa : List Fa) (fn : List DefD) (ex : PySem.W.Frag → Bool) (K : PySem.W.Frag) : Prop where
  d : SaysD fa fn K
  e : ex K = true
def hookQ (n : Nat) (fa : List Fa) (fn : List DefD) (ex : PySem.W.Frag → Bool) : PySem.W.Hook where
  α := AlQ
  obs := fun s => obsQG n fa fn ex s.heap.get?
  val := fun _ => (valD fn, true)
  says := fun _ h => ∃ K : PySem.W.Frag, K.In h ∧ SaysQ fa fn ex K
  of := fun _ _ e => ⟨_, frG_in, ⟨congrArg (fun z : AlQ => z.1) e, congrArg (fun z : AlQ => z.2) e⟩⟩
  keeps := fun _ _ _ ⟨K, hK, c⟩ k => ⟨K, PySem.W.Frag.In.keeps hK k, c⟩
theorem obsQG_eq {n : Nat} {fa : List Fa} {fn : List DefD} {ex : PySem.W.Frag → Bool} {g : Addr → Option Obj} {s : Shared} (h : ∀ a, g a = s.heap.get? a) : obsQG n fa fn ex g = (hookQ n fa fn ex).obs s := by
  have e : g = s.heap.get? := funext h
  rw [e] <;> rfl
end He
namespace He
open PySem PySem.Spec PyProof.Rows L2
abbrev AlR : Type := AlQ × List (Option (List (Option (Str × Int))))
def obsR (fa : List Fa) (fn : List DefD) (ex : PySem.W.Frag → Bool) (ts : List Tab) (K : PySem.W.Frag) : AlR := (obsQ fa fn ex K, ts.map fun t => dicW K (t.1 K))
def valR (fn : List DefD) (ts : List Tab) (w : World) : AlR := ((valD fn, true), ts.map fun t => some (keysIn w.params t.2))
def obsRG (n : Nat) (fa : List Fa) (fn : List DefD) (ex : PySem.W.Frag → Bool) (ts : List Tab) (g : Addr → Option Obj) : AlR := obsR fa fn ex ts (frG g (asD g n))
def SaysR (fa : List Fa) (fn : List DefD) (ex : PySem.W.Frag → Bool) (ts : List Tab) (w : World) (K : PySem.W.Frag) : Prop := obsR fa fn ex ts K = valR fn ts w
def hookR (n : Nat) (fa : List Fa) (fn : List DefD) (ex : PySem.W.Frag → Bool) (ts : List Tab) : PySem.W.Hook where
  α := AlR
  obs := fun s => obsRG n fa fn ex ts s.heap.get?
  val := fun w => valR fn ts w
  says := fun w h => ∃ K : PySem.W.Frag, K.In h ∧ SaysR fa fn ex ts w K
  of := fun _ _ e => ⟨_, frG_in, e⟩
  keeps := fun _ _ _ ⟨K, hK, c⟩ k => ⟨K, PySem.W.Frag.In.keeps hK k, c⟩
section
variable {fa : List Fa} {fn : List DefD} {ex : PySem.W.Frag → Bool} {ts : List Tab} {w : World} {K : PySem.W.Frag}
theorem SaysR.q (c : SaysR fa fn ex ts w K) : SaysQ fa fn ex K := ⟨congrArg (fun z : AlR => z.1.1) c, congrArg (fun z : AlR => z.1.2) c⟩
end
end He
namespace He
open PySem PySem.Spec PyProof.Rows L2
def obsNG (n : Nat) (fa : List Fa) (fn : List DefD) (ex : PySem.W.Frag → Bool) (ts : List Tab) (g : Addr → Option Obj) : AlR := obsR fa fn ex ts (frG g (List.range n))
def hookN (n : Nat) (fa : List Fa) (fn : List DefD) (ex : PySem.W.Frag → Bool) (ts : List Tab) : PySem.W.Hook where
  α := AlR
  obs := fun s => obsNG n fa fn ex ts s.heap.get?
  val := fun w => valR fn ts w
  says := fun w h => ∃ K : PySem.W.Frag, K.In h ∧ SaysR fa fn ex ts w K
  of := fun _ _ e => ⟨_, frG_in, e⟩
  keeps := fun _ _ _ ⟨K, hK, c⟩ k => ⟨K, PySem.W.Frag.In.keeps hK k, c⟩
end He
namespace He
open PySem PySem.Spec PyProof.Rows L2
def insB (K : PySem.W.Frag) (x : Str) : Bool :=
  eqO (PySem.W.findIn K (.ref (ga K x)) "__class__") (some (some (.builtin "object.__class__"))) && (eqO (PySem.W.specialIn K (.builtin "object.__class__") "__get__") (some (some (.builtin "getset_descriptor.__get__")))
  && (decide (PySem.W.takesIn K (.builtin "object.__class__") = some true) && (decide (PySem.W.mroIn K (ga K x) (.type "object") = some true) && decide (PySem.W.kitOne K (.ref (ga K x)) (.ref (ga K x)) = some true))))
end He
set_option maxHeartbeats 2000000
namespace IL
open PySem PySem.Spec PyProof.Rows L2 PySem.W
structure Facts (P : Program) (K : Frag) (C fI cc cda : Addr) (params : Arguments) (body : List Stmt) (scope : Scope) : Prop where
  oex : OexC K C
  iC : findIn K (.ref C) "__init__" = some (some (.ref fI))
  tI : typeIn K (.ref fI) = some (.type "function")
  lk : ∃ oc od kV doc pm an ct osl, K.lookup fI = some ⟨oc, od, .func (ksFn "__init__" "InvalidLine.__init__" params body scope .none kV doc pm an (.ref cda) ct cc), osl⟩
  cd : codeIn K (.ref cda) "InvalidLine.__init__" = true
  cell : ∃ cl cld csl, K.lookup cc = some ⟨cl, cld, .cell (some (.ref C)), csl⟩
  file : ∃ ccl cdd vs ccs file tf, K.lookup cda = some ⟨ccl, cdd, .fields vs, ccs⟩ ∧ vs[2]? = some (.str file tf) ∧ ((P.main.file : Str) == file) = true
  top : (P.main.scope.names.lookup ("super" : Str)).isSome = false
  sup : ks_superIn K C C "__init__" = some (some (.builtin "ValueError.__init__"))
  ve : subIn K (.ref C) (.type "ValueError") = some true
  opq : nsIn K cStatics "thirdparty.any" = some none
  mro : mroIn K C (.ref C) = some true
  line : findIn K (.ref C) "line" = some none
def spI (C : Addr) : Sp := fun vs H Q _ => ∃ a v, vs = [.ref a, v] ∧ H a = some (exo a C none) ∧ ∀ d, H d = none → d ≠ a → Q .non (upd (upd H d (exd d [("line", v)])) a (exo a C (some d)))
def noScope (sc : Scope) : Scope := { sc with names := [] }
section
variable {CX : CXT} {P : Program} {w : World} {K : Frag} {mg : Str → Option Value} {base : Heap} {C fI cc cda : Addr} {params : Arguments} {scope : Scope} {p0 p1 p2 p3 p4 p5 p6 p7 p8 pe : Pos} {pn : Nat} {tx : PySem.Str} {je : Nat}
abbrev initBody (p0 p1 p2 p3 p4 p5 p6 p7 p8 pe : Pos) (tx : PySem.Str) (je : Nat) : List Stmt := [.Expr (.Call (.Attribute (.Call (.Name "super" p0) [] [] p1) "__init__" p2) [.Constant (.str tx) je pe] [] p3) p4, .Assign [.Attribute (.Name "self" p5) "line" p6] (.Name "line" p7) p8]
abbrev Sc (names : List (Str × NameKind)) (more : List (Str × Const)) : Scope := ⟨.function, names, false, false, more⟩
end
end IL
namespace He
open PySem PySem.Spec PyProof.Rows L2
abbrev IlV : Type := Option (Str × Str × Arguments × FuncBody × Scope × Addr × Value × Addr) × Bool
def oexB (K : PySem.W.Frag) (C : Addr) : Bool := match K.lookup C with
  | some ⟨.type "type", _, .cls cd, sl⟩ => (match cd.mro, sl.toList with
    | .ref C' :: bm, [_, _, _, _, some (.builtin n), _] => C' == C && (n == "ValueError.__new__" && (!cd.hasDel && (cd.hasDict && PySem.HandSPX.refsVE bm)))
    | _, _ => false)
  | _ => false
def cellB (K : PySem.W.Frag) (cc C : Addr) : Bool := match K.lookup cc with
  | some ⟨_, _, .cell (some (.ref D)), _⟩ => D == C
  | _ => false
def fileB (K : PySem.W.Frag) (cda : Addr) (file : Str) : Bool := match K.lookup cda with
  | some ⟨_, _, .fields vs, _⟩ => (match vs[2]? with
    | some (PySem.Value.str f _) => decide (f = file)
    | _ => false)
  | _ => false
def ilB (K : PySem.W.Frag) (x : Str) (file : Str) (fd : FuncData) : Bool := match fd.closure, fd.code with
  | [(n, cc)], .ref cda => n == "__class__" && (cellB K cc (ga K x) && (PySem.W.codeIn K fd.code "InvalidLine.__init__" && (fileB K cda file && (oexB K (ga K x)
    && (eqO (PySem.W.findIn K (.ref (ga K x)) "__init__") (some (some (.ref (ma K (ga K x) "__init__")))) && (decide (PySem.W.typeIn K (.ref (ma K (ga K x) "__init__")) = some (.type "function"))
    && (eqO (PySem.W.findIn K (.ref (ga K x)) "__setattr__") (some (some (.builtin "object.__setattr__"))) && (decide (PySem.W.subIn K (.ref (ga K x)) (.type "BaseException") = some true) && (decide (PySem.W.typeIn K (.ref (ga K x)) = some (.type "type"))
    && (PySem.W.keepIn K (.ref (ga K x)) && (eqO (PySem.W.ks_superIn K (ga K x) (ga K x) "__init__") (some (some (.builtin "ValueError.__init__"))) && (decide (PySem.W.subIn K (.ref (ga K x)) (.type "ValueError") = some true)
    && (eqO (PySem.W.nsIn K PySem.cStatics "thirdparty.any") (some none) && (decide (PySem.W.mroIn K (ga K x) (.ref (ga K x)) = some true) && (eqO (PySem.W.findIn K (.ref (ga K x)) "line") (some none)
    && PySem.W.keepIn K (.ref (ma K (ga K x) "__init__")))))))))))))))))
  | _, _ => false
def ilObs (K : PySem.W.Frag) (x : Str) (file : Str) : IlV := match K.lookup (ma K (ga K x) "__init__") with
  | some ⟨_, _, .func fd, _⟩ => (some (fd.name, fd.qualname, fd.params, fd.body, fd.scope, fd.globals, fd.defaults, fd.builtins), ilB K x file fd)
  | _ => (none, false)
def ilVal (params : Arguments) (body : List Stmt) (scope : Scope) : IlV := (some ("__init__", "InvalidLine.__init__", params, .stmts body, scope, mainGlobals, .none, builtinsNs), true)
abbrev AlI : Type := AlR × IlV
def obsI (fa : List Fa) (fn : List DefD) (ex : PySem.W.Frag → Bool) (ts : List Tab) (x file : Str) (K : PySem.W.Frag) : AlI := (obsR fa fn ex ts K, ilObs K x file)
def valI (fn : List DefD) (ts : List Tab) (v : IlV) (w : World) : AlI := (valR fn ts w, v)
def obsIG (n : Nat) (fa : List Fa) (fn : List DefD) (ex : PySem.W.Frag → Bool) (ts : List Tab) (x file : Str) (g : Addr → Option Obj) : AlI := obsI fa fn ex ts x file (frG g (List.range n))
def SaysI (fa : List Fa) (fn : List DefD) (ex : PySem.W.Frag → Bool) (ts : List Tab) (x file : Str) (v : IlV) (w : World) (K : PySem.W.Frag) : Prop := obsI fa fn ex ts x file K = valI fn ts v w
def hookI (n : Nat) (fa : List Fa) (fn : List DefD) (ex : PySem.W.Frag → Bool) (ts : List Tab) (x file : Str) (v : IlV) : PySem.W.Hook where
  α := AlI
  obs := fun s => obsIG n fa fn ex ts x file s.heap.get?
  val := fun w => valI fn ts v w
  says := fun w h => ∃ K : PySem.W.Frag, K.In h ∧ SaysI fa fn ex ts x file v w K
  of := fun _ _ e => ⟨_, frG_in, e⟩
  keeps := fun _ _ _ ⟨K, hK, c⟩ k => ⟨K, PySem.W.Frag.In.keeps hK k, c⟩
theorem SaysI.r {fa : List Fa} {fn : List DefD} {ex : PySem.W.Frag → Bool} {ts : List Tab} {x file : Str} {v : IlV} {w : World} {K : PySem.W.Frag} (c : SaysI fa fn ex ts x file v w K) : SaysR fa fn ex ts w K := congrArg Prod.fst c
def ex9B (xs : List (Nat × Str)) (y b : Str) (K : PySem.W.Frag) : Bool := decide (PySem.W.exmOne K (.ref (ga K y)) (.ref (ga K b)) = some true) && xs.all fun p => decide (PySem.W.kitOne K (.ref (ga K p.2)) (.ref (ga K y)) = some false)
end He
set_option maxHeartbeats 0
namespace HeadT
open PySem PySem.Spec PyProof.Rows L2
def top (i : Nat) : Stmt := PySem.Challenge.pw_pairswap_k30_webs_and_who_may_meet.main.body.getD i (.Pass ⟨0, 0, 0, 0⟩)
def mth (i j : Nat) : Stmt := match top i with
  | .ClassDef (body := b) .. => b.getD j (.Pass ⟨0, 0, 0, 0⟩)
  | _ => .Pass ⟨0, 0, 0, 0⟩
def D_is_name : He.DefD := ⟨("is_name", none), "is_name", "is_name", defArgs (top 9), defBody (top 9), defScope (top 9), [], []⟩
def D_Web___init__ : He.DefD := ⟨("Web", some "__init__"), "__init__", "Web.__init__", defArgs (mth 10 0), defBody (mth 10 0), defScope (mth 10 0), [], []⟩
def D_Web__add_suit : He.DefD := ⟨("Web", some "_add_suit"), "_add_suit", "Web._add_suit", defArgs (mth 10 1), defBody (mth 10 1), defScope (mth 10 1), [], []⟩
def D_Web_names : He.DefD := ⟨("Web", some "names"), "names", "Web.names", defArgs (mth 10 2), defBody (mth 10 2), defScope (mth 10 2), [], []⟩
def D_Web_suits : He.DefD := ⟨("Web", some "suits"), "suits", "Web.suits", defArgs (mth 10 3), defBody (mth 10 3), defScope (mth 10 3), [], []⟩
def D_Web_does_suit : He.DefD := ⟨("Web", some "does_suit"), "does_suit", "Web.does_suit", defArgs (mth 10 4), defBody (mth 10 4), defScope (mth 10 4), [], []⟩
def D_Web_may_meet : He.DefD := ⟨("Web", some "may_meet"), "may_meet", "Web.may_meet", defArgs (mth 10 5), defBody (mth 10 5), defScope (mth 10 5), [], []⟩
def D_Web_edges : He.DefD := ⟨("Web", some "edges"), "edges", "Web.edges", defArgs (mth 10 6), defBody (mth 10 6), defScope (mth 10 6), [], []⟩
def D__law_cell : He.DefD := ⟨("_law_cell", none), "_law_cell", "_law_cell", defArgs (top 12), defBody (top 12), defScope (top 12), [], []⟩
def D__law_words : He.DefD := ⟨("_law_words", none), "_law_words", "_law_words", defArgs (top 13), defBody (top 13), defScope (top 13), [], []⟩
def D__law_web : He.DefD := ⟨("_law_web", none), "_law_web", "_law_web", defArgs (top 14), defBody (top 14), defScope (top 14), [], []⟩
def D__law_meet : He.DefD := ⟨("_law_meet", none), "_law_meet", "_law_meet", defArgs (top 15), defBody (top 15), defScope (top 15), [], []⟩
def D__law_edges : He.DefD := ⟨("_law_edges", none), "_law_edges", "_law_edges", defArgs (top 16), defBody (top 16), defScope (top 16), [], []⟩
def D__law_plans : He.DefD := ⟨("_law_plans", none), "_law_plans", "_law_plans", defArgs (top 17), defBody (top 17), defScope (top 17), [], []⟩
def D__law_in : He.DefD := ⟨("_law_in", none), "_law_in", "_law_in", defArgs (top 18), defBody (top 18), defScope (top 18), [], []⟩
def D__law_sets : He.DefD := ⟨("_law_sets", none), "_law_sets", "_law_sets", defArgs (top 19), defBody (top 19), defScope (top 19), [], []⟩
def D__law_first : He.DefD := ⟨("_law_first", none), "_law_first", "_law_first", defArgs (top 20), defBody (top 20), defScope (top 20), [], []⟩
def D__law_turned : He.DefD := ⟨("_law_turned", none), "_law_turned", "_law_turned", defArgs (top 21), defBody (top 21), defScope (top 21), [], []⟩
def D_law : He.DefD := ⟨("law", none), "law", "law", defArgs (top 22), defBody (top 22), defScope (top 22), [], []⟩
def fn0 : List He.DefD := [D_is_name, D_Web___init__, D_Web__add_suit, D_Web_names, D_Web_suits, D_Web_does_suit, D_Web_may_meet, D_Web_edges, D__law_cell, D__law_words, D__law_web, D__law_meet, D__law_edges, D__law_plans, D__law_in, D__law_sets, D__law_first, D__law_turned, D_law]
def fn : List He.DefD := fn0
def fa0 : List He.Fa := [.glo "SwapError", .exc "SwapError", .glo "InvalidWeb", .exc "InvalidWeb", .glo "DuplicateName", .exc "DuplicateName", .glo "UnknownName", .exc "UnknownName", .glo "InvalidSuit", .exc "InvalidSuit", .int "MOST_NAMES" 16, .str "LETTERS" "abcdefghijklmnopqrstuvwxyz", .glo "is_name", .glo "Web", .cls "Web", .noat "Web" "pairs", .noat "Web" "givers", .noat "Web" "_suits", .mkr "Web", .meth "Web" "__init__", .meth "Web" "_add_suit", .meth "Web" "names", .meth "Web" "suits", .meth "Web" "does_suit", .meth "Web" "may_meet", .meth "Web" "edges", .glo "_law_cell", .glo "_law_words", .glo "_law_web", .glo "_law_meet"]
def fa1 : List He.Fa := [.glo "_law_edges", .glo "_law_plans", .glo "_law_in", .glo "_law_sets", .glo "_law_first", .glo "_law_turned", .glo "law", .free "bool", .free "len", .free "range", .free "list", .free "int", .free "sorted", .free "enumerate", .free "isinstance", .free "min", .free "max", .free "abs", .free "reversed", .free "str", .free "tuple", .free "repr", .free "ValueError", .free "all", .free "zip", .free "super"]
def fa : List He.Fa := fa0 ++ fa1
def lo0 : List Str := ["__name__", "SwapError", "InvalidWeb", "DuplicateName", "UnknownName", "InvalidSuit", "MOST_NAMES", "LETTERS", "is_name", "Web", "_law_cell", "_law_words", "_law_web", "_law_meet", "_law_edges", "_law_plans", "_law_in", "_law_sets", "_law_first", "_law_turned"]
def lo : List Str := lo0
abbrev exn : List (Nat × Str) := [(0, "SwapError"), (1, "InvalidWeb"), (2, "DuplicateName"), (3, "UnknownName"), (4, "InvalidSuit")]
abbrev R : PySem.W.OpenRow := PySem.W.OpenLaw.row PySem.Challenge.rw_pairswap_k30_webs_and_who_may_meet
abbrev hk : PySem.W.Hook := He.hookQ 4 fa fn (He.exsB exn)
def ob (s : PySem.W.SharedT) : He.AlQ := He.obsQG 4 fa fn (He.exsB exn) (HandSHeadRun.getT s)
theorem ob_eq (s : PySem.W.SharedT) : ob s = hk.obs s.abs := He.obsQG_eq (HandSHeadRun.getT_eq s)
theorem run (w : World) : HandSHeadRun.RunEq R (PySem.W.view R.prog [22]) hk ob 6000 lo w := by
  intro os
  kernel_rfl
end HeadT
namespace L2N
open PySem PySem.Spec PyProof.Rows L2
section
variable {X : Cx}
theorem pmk_own1 {C : Addr} {bmB : List Value} {B newId initId : String} {x : Str} {e : Expr} {ta : TE} {p pos : Pos} (F : ExcBaseFacts B newId initId bmB) (q : PySem.W.excIn X.K C bmB newId = true) (gC : X.mg x = some (.ref C)) (kC : PySem.W.keepIn X.K (.ref C) = true) (r : Raises X (.ref C)) (hg : Gl X x)
    (he : PE X e ta) (hs : starEach [e] X.env = (false, eval e X.env) :: starEach [] X.env := by rfl) (hdb : (x == ("__debug__" : Str)) = false := by decide) :
    L2N.PMk X (.Call (.Name x p) [e] [] pos) (fun σ H Q => ta σ H fun _ H1 => Q (.ref C) none H1) := by
  intro pins s σ H Q I h
  refine wpAny_Call_Name_kw (ld_glob I hg gC ?_ hdb)
  refine PySem.W.callWith_K (h₀ := X.base) I.ok.mod.kin kC ?_ hs (by rfl)
  rw [hs]
  show wpAny _ _ (spliced ((false, eval e X.env) :: backTo pos (starEach [] X.env))) _ _ s
  refine Calls.spliced_cons (thn (he.run pins s σ H _ I h) fun u s1 ⟨v, H1, I1, r1, q1⟩ => ?_)
  refine Calls.spliced_nil ⟨I1.kIn, ?_⟩
  show wpAny _ _ (call (.ref C) [u]) _ _ _
  obtain ⟨bm, N, nm, qn, bs, hdct, sn, sub, ab, col, dd, k0, k1, k2, k3, k5, mN, hC, hN, hni, T⟩ := exc_obj I1.kIn q
  refine wpAny_call_exc_subT F T hC hN hni (fun h' e hm => ?_) (by show 1 ≤ sizeLine; rw [sizeLine_eq]; omega)
  exact L2N.mk_of I1 hm r q1 (I1.hok.gone hm.new)
variable {x : Str} {c : Value} {body suite : List Stmt} {b₀ : Stmt} {np pos pos' : Pos} {tb : WX → TS} {ts : Addr → Value → Option Addr → TS} {Wout : WX}
end
theorem passL {X : Cx} : Passes (L2N.CX X.prog X.w) X (fun _ _ _ => False) := fun pins σ H s e s' I c => by
  obtain ⟨a, B, H', cls, d, h1, h2, h3, h4, h5, h6, h7, h8⟩ := c
  exact h8.elim
theorem takes0 {X : Cx} : L2N.Takes X (fun _ _ _ _ => False) := fun _ _ x => by
  obtain ⟨_, _, _, _, _, _, _, _, _, _, _, _, _, _, _, _, z⟩ := x
  exact z.elim
theorem okX {P : Program} {w : World} {K : PySem.W.Frag} {mg : Str → Option Value} {base : Heap} {x qual : Str} {st : Stmt} {f : Addr} {fd : FuncData} {N ps : List Str} {k : Nat} {sp : Sp} (F : Fun K x qual st f fd) (S : FnScope N ps (defScope st)) (len : ∀ vs H Q E, sp vs H Q E → vs.length = ps.length)
    (hbody : ∀ (cdv : Value) (A : Around) (outer : List Env) (s : Shared) (H : Hp) (vs : List V) (Q : VK) (E : XK), Room k (A.deeper (envOfC qual (defScope st) s.heap.objs.size f cdv)) → sp vs H Q E →
      ∃ t, PSs (cxOf (L2N.CX P w) P w K mg base N qual (defScope st) f cdv A outer s H E) (defBody st) t ∧ t { nx := fun _ H' => Q .non H', rt := Q } (L2.start N vs) H) : FnOk P w K mg base (L2N.CX P w) (k + 1) f fd ps sp := by
  obtain ⟨oc, od, kV, doc, pm, an, cdv, ct, osl, rfl, lk, hcd⟩ := F.ex
  exact fn_of lk hcd S len fun A outer s H vs Q E hr hsp => hbody cdv A outer s H vs Q E hr hsp
end L2N
set_option maxHeartbeats 1000000
namespace Sim
open PySem L2
structure Gm where
  P : Program
  w : World
  K : PySem.W.Frag
  mg : Str → Option Value
  base : Heap
  C : Nat → Addr
def Le (G G' : Hp) : Prop := ∀ a o, G a = some o → G' a = some o
theorem Le.refl (G : Hp) : Le G G := fun _ _ h => h
theorem Le.trans {G G1 G2 : Hp} (a : Le G G1) (b : Le G1 G2) : Le G G2 := fun x o h => b x o (a x o h)
def isDk : HO → Prop
  | .dK _ => True
  | .dT _ => True
  | _ => False
abbrev Sub (G H : Hp) : Prop := Le G H
theorem Sub.lst {G H : Hp} (s : Sub G H) {a : Addr} {xs : List V} (h : G a = some (.lst xs)) : H a = some (.lst xs) := s a _ h
theorem Sub.tup {G H : Hp} (s : Sub G H) {a : Addr} {xs : List V} (h : G a = some (.tup xs)) : H a = some (.tup xs) := s a _ h
theorem Sub.ins {G H : Hp} (s : Sub G H) {a C dx : Addr} {fs : List (Str × V)} (h : G a = some (.ins C dx fs)) : H a = some (.ins C dx fs) := s a _ h
theorem Sub.rd {G H : Hp} (s : Sub G H) {a : Addr} {o : HO} {ob : Obj} (h : G a = some (.frz ob o)) : Rd H a o := .inr ⟨ob, s a _ h⟩
theorem Sub.some {G H : Hp} (s : Sub G H) {a : Addr} {o : HO} (h : G a = some o) : H a ≠ none := by
  rw [s a o h]; simp
theorem Sub.none {G H : Hp} (s : Sub G H) {a : Addr} (h : H a = none) : G a = none := by
  cases q : G a with
  | none => rfl
  | some o => exact absurd h (s.some q)
def lkd (H : Hp) (fp : List Addr) (ob : Addr → Obj) : Hp := fun x => if x ∈ fp then (match H x with | some (.dK k) => some (.frz (ob x) (.dK k)) | some (.dT k) => some (.frz (ob x) (.dT k)) | o => o) else H x
theorem lkd_out {H : Hp} {fp : List Addr} {ob : Addr → Obj} {x : Addr} (h : x ∉ fp) : lkd H fp ob x = H x := if_neg h
theorem lkd_nd {H : Hp} {fp : List Addr} {ob : Addr → Obj} {x : Addr} {o : HO} (h : H x = some o) (n : ¬ isDk o) : lkd H fp ob x = some o := by
  unfold lkd
  by_cases hx : x ∈ fp
  · rw [if_pos hx, h]
    cases o <;> first | rfl | exact absurd trivial n
  · rw [if_neg hx]; exact h
theorem lkd_d {H : Hp} {fp : List Addr} {ob : Addr → Obj} {x : Addr} {o : HO} (hx : x ∈ fp) (h : H x = some o) (n : isDk o) : lkd H fp ob x = some (.frz (ob x) o) := by
  unfold lkd
  rw [if_pos hx, h]
  cases o <;> first | rfl | exact absurd n (fun q => q)
abbrev isIn {α : Type} [DecidableEq α] (x : α) (xs : List α) : Bool := decide (x ∈ xs)
class Rp (α : Type) where
  rep : Gm → Hp → V → α → Prop
  mono : ∀ {Γ : Gm} {G G' : Hp} {v : V} {a : α}, Le G G' → rep Γ G v a → rep Γ G' v a
open Rp (rep)
class At1 (α : Type) where
  toV : α → V
  flat : ∀ a, flatV (toV a) = true
open At1 (toV)
instance (priority := 50) instRpAt1 {α : Type} [At1 α] : Rp α := ⟨fun _ _ v a => v = toV a, fun _ h => h⟩
instance : At1 Int := ⟨V.int, fun _ => rfl⟩
instance : At1 Bool := ⟨V.bl, fun _ => rfl⟩
structure Tt where
  s : Str
  ok : PyData.strOk s = true
theorem Tt.ext' {a b : Tt} (h : a.s = b.s) : a = b := by
  cases a; cases b; cases h; rfl
instance : DecidableEq Tt := fun a b => if h : a.s = b.s then isTrue (Tt.ext' h) else isFalse fun e => h (by rw [e])
instance : At1 Tt := ⟨fun t => .str t.s, fun _ => rfl⟩
instance : At1 Unit := ⟨fun _ => .non, fun _ => rfl⟩
theorem rep1 {α : Type} [At1 α] {Γ : Gm} {G : Hp} {v : V} {a : α} (h : rep Γ G v a) : v = toV a := h
abbrev RpL {α : Type} [Rp α] (Γ : Gm) (G : Hp) : List V → List α → Prop := Paired (rep Γ G)
theorem RpL.mono {α : Type} [Rp α] {Γ : Gm} {G G' : Hp} (e : Le G G') {vs : List V} {xs : List α} (h : RpL Γ G vs xs) : RpL Γ G' vs xs := Paired.mapP h fun _ _ r => Rp.mono e r
theorem RpL.length {α : Type} [Rp α] {Γ : Gm} {G : Hp} {vs : List V} {xs : List α} (h : RpL Γ G vs xs) : vs.length = xs.length := Paired.length h
theorem RpL.append {α : Type} [Rp α] {Γ : Gm} {G : Hp} : ∀ {vs ws : List V} {xs ys : List α}, RpL Γ G vs xs → RpL Γ G ws ys → RpL Γ G (vs ++ ws) (xs ++ ys)
  | _, _, _, _, .nil, s => s
  | _, _, _, _, .cons r t, s => .cons r (RpL.append t s)
theorem RpL.get {α : Type} [Rp α] {Γ : Gm} {G : Hp} : ∀ {vs : List V} {xs : List α} {i : Nat} {x : α}, RpL Γ G vs xs → xs[i]? = some x → ∃ v, vs[i]? = some v ∧ rep Γ G v x
  | _, _, _, _, .nil, e => by simp at e
  | _, _, 0, _, .cons r _, e => by
    have e' := Option.some.inj e
    subst e'
    exact ⟨_, rfl, r⟩
  | _, _, i + 1, x, .cons _ t, e => by
    obtain ⟨u, h1, h2⟩ := RpL.get (i := i) (x := x) t (by simpa using e)
    exact ⟨u, by simpa using h1, h2⟩
theorem RpL.getV {α : Type} [Rp α] {Γ : Gm} {G : Hp} : ∀ {vs : List V} {xs : List α} {i : Nat} {v : V}, RpL Γ G vs xs → vs[i]? = some v → ∃ x, xs[i]? = some x ∧ rep Γ G v x
  | _, _, _, _, .nil, e => by simp at e
  | _, _, 0, _, .cons r _, e => by
    have e' := Option.some.inj e
    subst e'
    exact ⟨_, rfl, r⟩
  | _, _, i + 1, x, .cons _ t, e => by
    obtain ⟨u, h1, h2⟩ := RpL.getV (i := i) (v := x) t (by simpa using e)
    exact ⟨u, by simpa using h1, h2⟩
theorem RpL.take {α : Type} [Rp α] {Γ : Gm} {G : Hp} : ∀ {vs : List V} {xs : List α} (n : Nat), RpL Γ G vs xs → RpL Γ G (vs.take n) (xs.take n)
  | _, _, 0, _ => .nil
  | _, _, _ + 1, .nil => .nil
  | _, _, n + 1, .cons r t => .cons r (RpL.take n t)
theorem RpL.drop {α : Type} [Rp α] {Γ : Gm} {G : Hp} : ∀ {vs : List V} {xs : List α} (n : Nat), RpL Γ G vs xs → RpL Γ G (vs.drop n) (xs.drop n)
  | _, _, 0, r => r
  | _, _, _ + 1, .nil => .nil
  | _, _, n + 1, .cons _ t => RpL.drop n t
theorem RpL.set {α : Type} [Rp α] {Γ : Gm} {G : Hp} {v : V} {x : α} (r : rep Γ G v x) : ∀ {vs : List V} {xs : List α} (i : Nat), RpL Γ G vs xs → RpL Γ G (vs.set i v) (xs.set i x)
  | _, _, _, .nil => .nil
  | _, _, 0, .cons _ t => .cons r t
  | _, _, i + 1, .cons q t => .cons q (RpL.set r i t)
theorem RpL.erase {α : Type} [Rp α] {Γ : Gm} {G : Hp} : ∀ {vs : List V} {xs : List α} (i : Nat), RpL Γ G vs xs → RpL Γ G (vs.eraseIdx i) (xs.eraseIdx i)
  | _, _, _, .nil => .nil
  | _, _, 0, .cons _ t => t
  | _, _, i + 1, .cons q t => .cons q (RpL.erase i t)
theorem RpL.reverse {α : Type} [Rp α] {Γ : Gm} {G : Hp} : ∀ {vs : List V} {xs : List α}, RpL Γ G vs xs → RpL Γ G vs.reverse xs.reverse
  | _, _, .nil => .nil
  | _, _, .cons r t => by
    rw [List.reverse_cons, List.reverse_cons]
    exact (RpL.reverse t).append (.cons r .nil)
theorem RpL.dropLast {α : Type} [Rp α] {Γ : Gm} {G : Hp} {vs : List V} {xs : List α} (h : RpL Γ G vs xs) : RpL Γ G vs.dropLast xs.dropLast := by
  rw [List.dropLast_eq_take, List.dropLast_eq_take, h.length]
  exact h.take _
theorem RpL.toV {α : Type} [At1 α] {Γ : Gm} {G : Hp} : ∀ {vs : List V} {xs : List α}, RpL Γ G vs xs → vs = xs.map At1.toV
  | _, _, .nil => rfl
  | _, _, .cons r t => by
    rw [List.map_cons, RpL.toV t, rep1 r]
theorem RpL.ofV {α : Type} [At1 α] {Γ : Gm} {G : Hp} : ∀ (xs : List α), RpL Γ G (xs.map At1.toV) xs
  | [] => .nil
  | x :: r => .cons rfl (RpL.ofV r)
instance instRpList {α : Type} [Rp α] : Rp (List α) := ⟨fun Γ G v xs => ∃ a vs, v = .ref a ∧ G a = some (.lst vs) ∧ RpL Γ G vs xs, fun e ⟨a, vs, h1, h2, h3⟩ => ⟨a, vs, h1, e _ _ h2, h3.mono e⟩⟩
instance instRpProd {α β : Type} [Rp α] [Rp β] : Rp (α × β) := ⟨fun Γ G v p => ∃ a x y, v = .ref a ∧ G a = some (.tup [x, y]) ∧ rep Γ G x p.1 ∧ rep Γ G y p.2, fun e ⟨a, x, y, h1, h2, h3, h4⟩ => ⟨a, x, y, h1, e _ _ h2, Rp.mono e h3, Rp.mono e h4⟩⟩
structure T3 (α β γ : Type) where
  a : α
  b : β
  c : γ
  deriving DecidableEq
instance instRpT3 {α β γ : Type} [Rp α] [Rp β] [Rp γ] : Rp (T3 α β γ) := ⟨fun Γ G v p => ∃ a x y z, v = .ref a ∧ G a = some (.tup [x, y, z]) ∧ rep Γ G x p.a ∧ rep Γ G y p.b ∧ rep Γ G z p.c, fun e ⟨a, x, y, z, h1, h2, h3, h4, h5⟩ => ⟨a, x, y, z, h1, e _ _ h2, Rp.mono e h3, Rp.mono e h4, Rp.mono e h5⟩⟩
structure TL (α : Type) where
  l : List α
  deriving DecidableEq
instance instRpTL {α : Type} [Rp α] : Rp (TL α) := ⟨fun Γ G v xs => ∃ a vs, v = .ref a ∧ G a = some (.tup vs) ∧ RpL Γ G vs xs.l, fun e ⟨a, vs, h1, h2, h3⟩ => ⟨a, vs, h1, e _ _ h2, h3.mono e⟩⟩
instance instRpOption {α : Type} [Rp α] : Rp (Option α) := ⟨fun Γ G v o => match o with | none => v = .non | some a => v ≠ .non ∧ rep Γ G v a, fun {_ _ _ _ o} e h => by
  cases o with
  | none => exact h
  | some a => exact ⟨h.1, Rp.mono e h.2⟩⟩
structure Scr where
  l : List Int
instance : Rp Scr := ⟨fun Γ G v xs => ∃ a, v = .ref a ∧ SqL Γ.K G a (xs.l.map V.int), fun {_ G G' _ _} e ⟨a, h1, h2⟩ => ⟨a, h1, by
  rcases h2 with (h | ⟨o, h⟩) | h
  · exact .inl (.inl (e _ _ h))
  · exact .inl (.inr ⟨o, e _ _ h⟩)
  · exact .inr h⟩⟩
class K1 (κ : Type) where
  key : κ → Key
  inj : ∀ a b, key a = key b → a = b
open K1 (key)
class KT (κ : Type) where
  keys : κ → List Key
  inj : ∀ a b, keys a = keys b → a = b
open KT (keys)
instance : K1 Int := ⟨Sum.inl, fun _ _ h => Sum.inl.inj h⟩
instance : K1 Tt := ⟨fun t => Sum.inr t.s, fun _ _ h => Tt.ext' (Sum.inr.inj h)⟩
instance {α β : Type} [K1 α] [K1 β] : KT (α × β) := ⟨fun p => [key p.1, key p.2], fun a b h => by
  have h1 := List.cons.inj h
  have h2 := List.cons.inj h1.2
  exact Prod.ext (K1.inj _ _ h1.1) (K1.inj _ _ h2.1)⟩
theorem keys_map_inj {α : Type} [K1 α] : ∀ {xs ys : List α}, xs.map (key (κ := α)) = ys.map key → xs = ys
  | [], [], _ => rfl
  | [], _ :: _, h => by cases h
  | _ :: _, [], h => by cases h
  | x :: r, y :: t, h => by
    rw [List.map_cons, List.map_cons] at h
    have h1 := List.cons.inj h
    rw [K1.inj _ _ h1.1, keys_map_inj h1.2]
instance {α : Type} [K1 α] : KT (TL α) := ⟨fun p => p.l.map key, fun ⟨a⟩ ⟨b⟩ h => congrArg TL.mk (keys_map_inj h)⟩
structure DK (κ α : Type) where
  l : List (κ × α)
structure DT (κ α : Type) where
  l : List (κ × α)
abbrev RpK {κ α : Type} [K1 κ] [Rp α] (Γ : Gm) (G : Hp) : List (Key × V) → List (κ × α) → Prop := Paired fun p q => p.1 = key q.1 ∧ rep Γ G p.2 q.2
abbrev RpT {κ α : Type} [KT κ] [Rp α] (Γ : Gm) (G : Hp) : List (List Key × V) → List (κ × α) → Prop := Paired fun p q => p.1 = keys q.1 ∧ rep Γ G p.2 q.2
theorem RpK.mono {κ α : Type} [K1 κ] [Rp α] {Γ : Gm} {G G' : Hp} (e : Le G G') {vs : List (Key × V)} {xs : List (κ × α)} (h : RpK Γ G vs xs) : RpK Γ G' vs xs := Paired.mapP h fun _ _ r => ⟨r.1, Rp.mono e r.2⟩
theorem RpT.mono {κ α : Type} [KT κ] [Rp α] {Γ : Gm} {G G' : Hp} (e : Le G G') {vs : List (List Key × V)} {xs : List (κ × α)} (h : RpT Γ G vs xs) : RpT Γ G' vs xs := Paired.mapP h fun _ _ r => ⟨r.1, Rp.mono e r.2⟩
instance instRpDK {κ α : Type} [K1 κ] [Rp α] : Rp (DK κ α) := ⟨fun Γ G v d => ∃ a kvs ob, v = .ref a ∧ G a = some (.frz ob (.dK kvs)) ∧ RpK Γ G kvs d.l, fun e ⟨a, vs, ob, h1, h2, h3⟩ => ⟨a, vs, ob, h1, e _ _ h2, h3.mono e⟩⟩
instance instRpDT {κ α : Type} [KT κ] [Rp α] : Rp (DT κ α) := ⟨fun Γ G v d => ∃ a kvs ob, v = .ref a ∧ G a = some (.frz ob (.dT kvs)) ∧ RpT Γ G kvs d.l, fun e ⟨a, vs, ob, h1, h2, h3⟩ => ⟨a, vs, ob, h1, e _ _ h2, h3.mono e⟩⟩
def frzd (G H : Hp) (fp : List Addr) : Hp := fun x => if x ∈ fp then H x else G x
abbrev Th (o g : Option HO) : Prop := g = none ∨ ∃ vs, o = some (.tup vs)
theorem Th.trans {o g g' : Option HO} (h : Th o g) (k : g = none → Th o g') : Th o g' := h.elim k .inr
theorem Th.none {o g : Option HO} (h : Th o g) (n : ∀ vs, o ≠ some (.tup vs)) : g = Option.none := h.elim id fun ⟨vs, e⟩ => absurd e (n vs)
theorem Th.no {o g : Option HO} {u : HO} (h : Th o g) (e : o = some u) (n : ∀ vs, u ≠ .tup vs := by intro vs e; cases e) : g = Option.none := h.none fun ws e2 => by
  rw [e] at e2
  exact n ws (Option.some.inj e2)
class Ow (α : Type) where
  own : Gm → Hp → Hp → V → List Addr → α → Prop
  stay : ∀ {Γ : Gm} {G G' H H' : Hp} {v : V} {fp : List Addr} {a : α}, own Γ G H v fp a → Le G G' → (∀ x ∈ fp, ∀ o, H x = some o → H' x = some o) → own Γ G' H' v fp a
  there : ∀ {Γ : Gm} {G H : Hp} {v : V} {fp : List Addr} {a : α}, own Γ G H v fp a → ∀ x ∈ fp, H x ≠ none
  nt : ∀ {Γ : Gm} {G H : Hp} {v : V} {fp : List Addr} {a : α}, own Γ G H v fp a → ∀ x ∈ fp, ∀ vs, H x ≠ some (.tup vs)
  F : Type
  iF : Rp F
  toF : α → F
  canF : Bool
  fz : canF = true → ∀ {Γ : Gm} {G H : Hp} {v : V} {fp : List Addr} {a : α} (ob : Addr → Obj), own Γ G H v fp a → Le G (frzd G (lkd H fp ob) fp) → rep Γ (frzd G (lkd H fp ob) fp) v (toF a)
open Ow (own)
structure OL (α : Type) where
  l : List α
structure OK (κ α : Type) where
  l : List (κ × α)
structure OT (κ α : Type) where
  l : List (κ × α)
theorem some_ne {α : Type} {x : Option α} {a : α} (h : x = some a) : x ≠ none := by rw [h]; simp
theorem frzd_one {G H : Hp} {a : Addr} : frzd G H [a] a = H a := if_pos (List.mem_singleton.mpr rfl)
instance instOwOL {α : Type} [Rp α] : Ow (OL α) where
  own := fun Γ G H v fp xs => ∃ a vs, v = .ref a ∧ fp = [a] ∧ H a = some (.lst vs) ∧ RpL Γ G vs xs.l
  stay := fun ⟨a, vs, h1, h2, h3, h4⟩ e k => ⟨a, vs, h1, h2, k a (by rw [h2]; exact List.mem_cons_self) _ h3, h4.mono e⟩
  there := fun ⟨a, vs, h1, h2, h3, h4⟩ x hx => by
    rw [h2] at hx
    rw [List.mem_singleton.mp hx]
    exact some_ne h3
  nt := fun ⟨a, vs, h1, h2, h3, h4⟩ x hx ws e => by
    rw [h2] at hx
    rw [List.mem_singleton.mp hx, h3] at e
    cases e
  F := List α
  iF := instRpList
  toF := fun x => x.l
  canF := true
  fz := fun _ _ _ _ _ _ _ ob ⟨a, vs, h1, h2, h3, h4⟩ le => ⟨a, vs, h1, by rw [h2, frzd_one]; exact lkd_nd h3 fun q => q, h4.mono le⟩
instance instOwOK {κ α : Type} [K1 κ] [Rp α] : Ow (OK κ α) where
  own := fun Γ G H v fp d => ∃ a vs, v = .ref a ∧ fp = [a] ∧ H a = some (.dK vs) ∧ RpK Γ G vs d.l
  stay := fun ⟨a, vs, h1, h2, h3, h4⟩ e k => ⟨a, vs, h1, h2, k a (by rw [h2]; exact List.mem_cons_self) _ h3, h4.mono e⟩
  there := fun ⟨a, vs, h1, h2, h3, h4⟩ x hx => by
    rw [h2] at hx
    rw [List.mem_singleton.mp hx]
    exact some_ne h3
  nt := fun ⟨a, vs, h1, h2, h3, h4⟩ x hx ws e => by
    rw [h2] at hx
    rw [List.mem_singleton.mp hx, h3] at e
    cases e
  F := DK κ α
  iF := instRpDK
  toF := fun x => ⟨x.l⟩
  canF := true
  fz := fun _ _ _ _ _ _ _ ob ⟨a, vs, h1, h2, h3, h4⟩ le => ⟨a, vs, ob a, h1, by rw [h2, frzd_one]; exact lkd_d (List.mem_singleton.mpr rfl) h3 trivial, h4.mono le⟩
instance instOwOT {κ α : Type} [KT κ] [Rp α] : Ow (OT κ α) where
  own := fun Γ G H v fp d => ∃ a vs, v = .ref a ∧ fp = [a] ∧ H a = some (.dT vs) ∧ RpT Γ G vs d.l
  stay := fun ⟨a, vs, h1, h2, h3, h4⟩ e k => ⟨a, vs, h1, h2, k a (by rw [h2]; exact List.mem_cons_self) _ h3, h4.mono e⟩
  there := fun ⟨a, vs, h1, h2, h3, h4⟩ x hx => by
    rw [h2] at hx
    rw [List.mem_singleton.mp hx]
    exact some_ne h3
  nt := fun ⟨a, vs, h1, h2, h3, h4⟩ x hx ws e => by
    rw [h2] at hx
    rw [List.mem_singleton.mp hx, h3] at e
    cases e
  F := DT κ α
  iF := instRpDT
  toF := fun x => ⟨x.l⟩
  canF := true
  fz := fun _ _ _ _ _ _ _ ob ⟨a, vs, h1, h2, h3, h4⟩ le => ⟨a, vs, ob a, h1, by rw [h2, frzd_one]; exact lkd_d (List.mem_singleton.mpr rfl) h3 trivial, h4.mono le⟩
inductive Slot : Type 1
  | dead : Slot
  | val (α : Type) (i : Rp α) (a : α) : Slot
  | own (α : Type) (i : Ow α) (a : α) : Slot
abbrev Sto := List Slot
abbrev vl {α : Type} [i : Rp α] (a : α) : Slot := .val α i a
abbrev ow {α : Type} [i : Ow α] (a : α) : Slot := .own α i a
def SlotOk (Γ : Gm) (G H : Hp) (o : Option V) (s : Slot) (fp : List Addr) : Prop :=
  match s with
  | .dead => fp = []
  | .val _ i a => fp = [] ∧ ∃ v, o = some v ∧ i.rep Γ G v a
  | .own _ i a => ∃ v, o = some v ∧ i.own Γ G H v fp a
structure SlotsOk (Γ : Gm) (G H : Hp) (σ : St) (ρ : Sto) (φ : Nat → List Addr) : Prop where
  len : σ.length = ρ.length
  ok : ∀ i s, ρ[i]? = some s → ∃ o, σ[i]? = some o ∧ SlotOk Γ G H o s (φ i)
  apart : ∀ i j x, x ∈ φ i → x ∈ φ j → i = j
  out : ∀ i, ρ.length ≤ i → φ i = []
structure Bs where
  G : Hp
  H : Hp
  M : List Addr
  σ : St
  fx : List Nat
structure At (Γ : Gm) (B : Bs) (ρ : Sto) (G H : Hp) (σ : St) : Prop where
  sub : Sub G H
  le : Le B.G G
  keep : ∀ a o, a ∉ B.M → B.H a = some o → H a = some o
  live : ∀ a, B.H a ≠ none → H a ≠ none
  thin : ∀ a, a ∉ B.M → B.H a ≠ none → B.G a = none → Th (B.H a) (G a)
  slots : ∃ φ, SlotsOk Γ G H σ ρ φ ∧ ∀ i, ∀ a ∈ φ i, G a = none ∧ (B.H a = none ∨ a ∈ B.M)
  fix : ∀ i ∈ B.fx, σ[i]? = B.σ[i]?
structure Grow (G H G' H' : Hp) : Prop where
  leG : Le G G'
  leH : Le H H'
  sub : Sub G' H'
  thin : ∀ a, H a ≠ none → G a = none → Th (H a) (G' a)
theorem Grow.refl {G H : Hp} (s : Sub G H) : Grow G H G H := ⟨.refl _, .refl _, s, fun _ _ h => .inl h⟩
theorem Grow.trans {G H G1 H1 G2 H2 : Hp} (a : Grow G H G1 H1) (b : Grow G1 H1 G2 H2) : Grow G H G2 H2 :=
  ⟨a.leG.trans b.leG, a.leH.trans b.leH, b.sub, fun x hx hg => by
    cases q : H x with
    | none => exact absurd q hx
    | some o =>
      have e := a.leH x o q
      rcases a.thin x hx hg with w | w
      · have t := b.thin x (some_ne e) w
        rw [e] at t
        exact t
      · rw [q] at w
        exact .inr w⟩
theorem Grow.new {G H : Hp} (s : Sub G H) {p : Addr} (h : H p = none) (o : HO) : Grow G H (upd G p o) (upd H p o) := by
  have hg := s.none h
  refine ⟨fun a u e => ?_, fun a u e => ?_, fun a u e => ?_, fun a ha e => ?_⟩
  · rw [upd_ne (ne_of_none e hg)]; exact e
  · rw [upd_ne (ne_of_none e h)]; exact e
  · by_cases z : a = p
    · subst z; rw [upd_same] at e ⊢; exact e
    · rw [upd_ne z] at e ⊢; exact s a u e
  · have z : a ≠ p := fun z => ha (z ▸ h)
    rw [upd_ne z]; exact .inl e
theorem Grow.newO {G H : Hp} (s : Sub G H) {p : Addr} (h : H p = none) (o : HO) : Grow G H G (upd H p o) := by
  refine ⟨.refl _, fun a u e => ?_, fun a u e => ?_, fun a ha e => .inl e⟩
  · rw [upd_ne (ne_of_none e h)]; exact e
  · have z : a ≠ p := fun z => s.some e (z ▸ h)
    rw [upd_ne z]; exact s a u e
theorem SlotOk.grow {Γ : Gm} {G H G' H' : Hp} {o : Option V} {s : Slot} {fp : List Addr} (e : Le G G') (k : ∀ x ∈ fp, ∀ o, H x = some o → H' x = some o) (h : SlotOk Γ G H o s fp) : SlotOk Γ G' H' o s fp := by
  cases s with
  | dead => exact h
  | val α i a => obtain ⟨h1, v, h2, h3⟩ := h; exact ⟨h1, v, h2, i.mono e h3⟩
  | own α i a => obtain ⟨v, h2, h3⟩ := h; exact ⟨v, h2, i.stay h3 e k⟩
theorem SlotsOk.grow {Γ : Gm} {G H G' H' : Hp} {σ : St} {ρ : Sto} {φ : Nat → List Addr} (e : Le G G') (h : SlotsOk Γ G H σ ρ φ) (k : ∀ i, ∀ x ∈ φ i, ∀ o, H x = some o → H' x = some o) : SlotsOk Γ G' H' σ ρ φ :=
  ⟨h.len, fun i s hs => by
    obtain ⟨o, h1, h2⟩ := h.ok i s hs
    exact ⟨o, h1, h2.grow e (k i)⟩, h.apart, h.out⟩
theorem SlotOk.there {Γ : Gm} {G H : Hp} {o : Option V} {s : Slot} {fp : List Addr} (h : SlotOk Γ G H o s fp) : ∀ x ∈ fp, H x ≠ none := by
  intro x hx
  cases s with
  | dead => rw [show fp = [] from h] at hx; simp at hx
  | val α i a => rw [h.1] at hx; simp at hx
  | own α i a => obtain ⟨v, _, h3⟩ := h; exact i.there h3 x hx
theorem SlotsOk.there {Γ : Gm} {G H : Hp} {σ : St} {ρ : Sto} {φ : Nat → List Addr} (h : SlotsOk Γ G H σ ρ φ) : ∀ i, ∀ x ∈ φ i, H x ≠ none := by
  intro i x hx
  cases q : ρ[i]? with
  | none =>
    rw [h.out i (List.getElem?_eq_none_iff.mp q)] at hx
    simp at hx
  | some s =>
    obtain ⟨o, _, h2⟩ := h.ok i s q
    exact h2.there x hx
theorem SlotOk.nt {Γ : Gm} {G H : Hp} {o : Option V} {s : Slot} {fp : List Addr} (h : SlotOk Γ G H o s fp) : ∀ x ∈ fp, ∀ vs, H x ≠ some (.tup vs) := by
  intro x hx
  cases s with
  | dead => rw [show fp = [] from h] at hx; simp at hx
  | val α i a => rw [h.1] at hx; simp at hx
  | own α i a => obtain ⟨v, _, h3⟩ := h; exact i.nt h3 x hx
theorem SlotsOk.nt {Γ : Gm} {G H : Hp} {σ : St} {ρ : Sto} {φ : Nat → List Addr} (h : SlotsOk Γ G H σ ρ φ) : ∀ i, ∀ x ∈ φ i, ∀ vs, H x ≠ some (.tup vs) := by
  intro i x hx
  cases q : ρ[i]? with
  | none =>
    rw [h.out i (List.getElem?_eq_none_iff.mp q)] at hx
    simp at hx
  | some s =>
    obtain ⟨o, _, h2⟩ := h.ok i s q
    exact h2.nt x hx
theorem Grow.live {G H G' H' : Hp} (g : Grow G H G' H') {a : Addr} (h : H a ≠ none) : H' a ≠ none := by
  cases q : H a with
  | none => exact absurd q h
  | some o => exact some_ne (g.leH a o q)
theorem At.thinT {Γ : Gm} {B : Bs} {ρ : Sto} {G H G' : Hp} {σ : St} (A : At Γ B ρ G H σ) (t : ∀ a, H a ≠ none → G a = none → Th (H a) (G' a)) : ∀ a, a ∉ B.M → B.H a ≠ none → B.G a = none → Th (B.H a) (G' a) := fun a hm ha hb => (A.thin a hm ha hb).trans fun hg => by
  have t := t a (A.live a ha) hg
  cases q : B.H a with
  | none => exact absurd q ha
  | some o => rw [A.keep a o hm q] at t; exact t
theorem At.grow {Γ : Gm} {B : Bs} {ρ : Sto} {G H G' H' : Hp} {σ : St} (A : At Γ B ρ G H σ) (g : Grow G H G' H') : At Γ B ρ G' H' σ := by
  obtain ⟨φ, h1, h3⟩ := A.slots
  exact ⟨g.sub, A.le.trans g.leG, fun a o ha e => g.leH a o (A.keep a o ha e), fun a ha => g.live (A.live a ha), A.thinT g.thin,
    ⟨φ, h1.grow g.leG fun i x _ o e => g.leH x o e, fun i a ha => ⟨(g.thin a (h1.there i a ha) (h3 i a ha).1).none (h1.nt i a ha), (h3 i a ha).2⟩⟩, A.fix⟩
end Sim
namespace Sim
open PySem L2
open Rp (rep)
open At1 (toV)
open K1 (key)
open KT (keys)
open Ow (own)
def setφ (φ : Nat → List Addr) (i : Nat) (fp : List Addr) : Nat → List Addr := fun j => if j = i then fp else φ j
theorem setφ_same {φ : Nat → List Addr} {i : Nat} {fp : List Addr} : setφ φ i fp i = fp := if_pos rfl
theorem setφ_ne {φ : Nat → List Addr} {i j : Nat} {fp : List Addr} (h : j ≠ i) : setφ φ i fp j = φ j := if_neg h
theorem mem_setφ {φ : Nat → List Addr} {i j : Nat} {fp : List Addr} {x : Addr} (h : x ∈ setφ φ i fp j) : (j = i ∧ x ∈ fp) ∨ (j ≠ i ∧ x ∈ φ j) := by
  by_cases e : j = i
  · subst e; rw [setφ_same] at h; exact .inl ⟨rfl, h⟩
  · rw [setφ_ne e] at h; exact .inr ⟨e, h⟩
theorem SlotsOk.set {Γ : Gm} {G H : Hp} {σ : St} {ρ : Sto} {φ : Nat → List Addr} (h : SlotsOk Γ G H σ ρ φ) {i : Nat} (hi : i < ρ.length) {o : Option V} {s : Slot} {fp : List Addr} (q : SlotOk Γ G H o s fp) (ap : ∀ j x, j ≠ i → x ∈ fp → x ∉ φ j) :
    SlotsOk Γ G H (σ.set i o) (ρ.set i s) (setφ φ i fp) := by
  refine ⟨by simp [h.len], fun j s' hj => ?_, fun j k x hx hy => ?_, fun j hj => ?_⟩
  · by_cases e : j = i
    · subst e
      rw [List.getElem?_set_self hi] at hj
      cases hj
      exact ⟨o, by rw [List.getElem?_set_self (by rw [h.len]; exact hi)], by rw [setφ_same]; exact q⟩
    · rw [List.getElem?_set_ne (Ne.symm e)] at hj
      obtain ⟨o', h1, h2⟩ := h.ok j s' hj
      exact ⟨o', by rw [List.getElem?_set_ne (Ne.symm e)]; exact h1, by rw [setφ_ne e]; exact h2⟩
  · rcases mem_setφ hx with ⟨e, hx⟩ | ⟨e, hx⟩ <;> rcases mem_setφ hy with ⟨e', hy⟩ | ⟨e', hy⟩
    · rw [e, e']
    · exact absurd hy (ap k x e' hx)
    · exact absurd hx (ap j x e hy)
    · exact h.apart j k x hx hy
  · have z : j ≠ i := by
      intro z
      rw [List.length_set, z] at hj
      omega
    rw [setφ_ne z]
    exact h.out j (by simpa using hj)
section
variable {Γ : Gm} {B : Bs} {ρ : Sto} {G H : Hp} {σ : St}
theorem At.setV {α : Type} [I : Rp α] {v : V} {a : α} {i : Nat} (A : At Γ B ρ G H σ) (hi : i < ρ.length) (r : rep Γ G v a) (nf : i ∉ B.fx) : At Γ B (ρ.set i (vl a)) G H (σ.set i (some v)) := by
  obtain ⟨φ, h1, h3⟩ := A.slots
  refine ⟨A.sub, A.le, A.keep, A.live, A.thin, ⟨setφ φ i [], h1.set hi ⟨rfl, v, rfl, r⟩ fun j x _ hx => by simp at hx, fun j a ha => ?_⟩, fun j hj => by
    rw [List.getElem?_set_ne fun z => nf (by rw [z]; exact hj)]
    exact A.fix j hj⟩
  rcases mem_setφ ha with ⟨_, q⟩ | ⟨_, q⟩
  · simp at q
  · exact h3 j a q
theorem At.setN {α : Type} [I : Ow α] {p : Addr} {o : HO} {v : V} {a : α} {i : Nat} (A : At Γ B ρ G H σ) (hi : i < ρ.length) (hp : H p = none) (r : own Γ G (upd H p o) v [p] a) (nf : i ∉ B.fx) : At Γ B (ρ.set i (ow a)) G (upd H p o) (σ.set i (some v)) := by
  have g := Grow.newO A.sub hp o
  obtain ⟨φ, h1, h3⟩ := A.slots
  have h1' := h1.grow (.refl G) (H' := upd H p o) fun j x _ u e => g.leH x u e
  have A' := A.grow g
  refine ⟨A'.sub, A'.le, A'.keep, A'.live, A'.thin, ⟨setφ φ i [p], h1'.set hi ⟨v, rfl, r⟩ fun j x hj hx hm => ?_, fun j a ha => ?_⟩, fun j hj => by
    rw [List.getElem?_set_ne fun z => nf (by rw [z]; exact hj)]
    exact A.fix j hj⟩
  · rw [List.mem_singleton.mp hx] at hm
    exact h1.there j p hm hp
  · rcases mem_setφ ha with ⟨_, q⟩ | ⟨_, q⟩
    · rw [List.mem_singleton.mp q]
      refine ⟨A.sub.none hp, .inl ?_⟩
      cases z : B.H p with
      | none => rfl
      | some u => exact absurd hp (A.live p (some_ne z))
    · exact h3 j a q
theorem At.setO {α α' : Type} {I : Ow α} {I' : Ow α'} {p : Addr} {a : α} {a' : α'} {i : Nat} {ob : HO} (A : At Γ B ρ G H σ) (hi : ρ[i]? = some (.own α I a)) (hf : ∀ v fp, I.own Γ G H v fp a → ∃ q, v = .ref q ∧ fp = [q]) (hp : σ[i]? = some (some (.ref p)))
    (r : I'.own Γ G (upd H p ob) (.ref p) [p] a') : At Γ B (ρ.set i (.own α' I' a')) G (upd H p ob) σ := by
  obtain ⟨φ, h1, h3⟩ := A.slots
  have hi' : i < ρ.length := (List.getElem?_eq_some_iff.mp hi).1
  obtain ⟨o, e1, v, e2, ow'⟩ := h1.ok i _ hi
  obtain ⟨q, e3, e4⟩ := hf v _ ow'
  rw [e2, e3, hp] at e1
  have e1' : p = q := by injection e1 with e1; injection e1 with e1; injection e1
  subst e1'
  have hm : p ∈ φ i := by rw [e4]; exact List.mem_singleton.mpr rfl
  have hne : ∀ j x, j ≠ i → x ∈ φ j → x ≠ p := fun j x hj hx z => hj (h1.apart j i p (z ▸ hx) hm)
  have hs : i < σ.length := by rw [h1.len]; exact hi'
  have eσ : σ.set i (some (.ref p)) = σ := by
    have := List.getElem?_eq_getElem hs
    rw [this] at hp
    rw [← Option.some.inj hp]; simp
  have hpB := h3 i p hm
  refine ⟨fun x u e => ?_, A.le, fun x u hx e => ?_, fun x hx => ?_, A.thin, ⟨setφ φ i [p], ?_, fun j a ha => ?_⟩, A.fix⟩
  · have z : x ≠ p := fun z => by rw [z, hpB.1] at e; cases e
    rw [upd_ne z]; exact A.sub x u e
  · have z : x ≠ p := fun z => by
      rcases hpB.2 with w | w
      · rw [z, w] at e; cases e
      · exact hx (z ▸ w)
    rw [upd_ne z]; exact A.keep x u hx e
  · by_cases z : x = p
    · rw [z, upd_same]; simp
    · rw [upd_ne z]; exact A.live x hx
  · refine ⟨by simp [h1.len], fun j s hj => ?_, fun j k x hx hy => ?_, fun j hj => ?_⟩
    · by_cases z : j = i
      · subst z
        rw [List.getElem?_set_self hi'] at hj
        cases hj
        exact ⟨some (.ref p), hp, .ref p, rfl, by rw [setφ_same]; exact r⟩
      · rw [List.getElem?_set_ne (Ne.symm z)] at hj
        obtain ⟨o', q1, q2⟩ := h1.ok j s hj
        refine ⟨o', q1, ?_⟩
        rw [setφ_ne z]
        exact q2.grow (.refl _) fun x hx u e => by rw [upd_ne (hne j x z hx)]; exact e
    · rcases mem_setφ hx with ⟨e, hx⟩ | ⟨e, hx⟩ <;> rcases mem_setφ hy with ⟨e', hy⟩ | ⟨e', hy⟩
      · rw [e, e']
      · exact absurd (List.mem_singleton.mp hx) (hne k x e' hy)
      · exact absurd (List.mem_singleton.mp hy) (hne j x e hx)
      · exact h1.apart j k x hx hy
    · have z : j ≠ i := by
        intro z
        rw [List.length_set, z] at hj
        omega
      rw [setφ_ne z]
      exact h1.out j (by simpa using hj)
  · rcases mem_setφ ha with ⟨_, q⟩ | ⟨_, q⟩
    · rw [List.mem_singleton.mp q]; exact hpB
    · exact h3 j a q
theorem At.setL {α : Type} [Rp α] {p : Addr} {ws : List V} {xs ys : List α} {i : Nat} (A : At Γ B ρ G H σ) (hi : ρ[i]? = some (ow (OL.mk xs))) (hp : σ[i]? = some (some (.ref p))) (r : RpL Γ G ws ys) : At Γ B (ρ.set i (ow (OL.mk ys))) G (upd H p (.lst ws)) σ :=
  A.setO hi (fun v fp ⟨q, us, e3, e4, _⟩ => ⟨q, e3, e4⟩) hp ⟨p, ws, rfl, rfl, upd_same, r⟩
theorem At.get {α : Type} {I : Rp α} {a : α} {i : Nat} (A : At Γ B ρ G H σ) (h : ρ[i]? = some (.val α I a)) : ∃ v, σ[i]? = some (some v) ∧ rep Γ G v a := by
  obtain ⟨φ, h1, h3⟩ := A.slots
  obtain ⟨o, e, _, v, e2, r⟩ := h1.ok i _ h
  exact ⟨v, by rw [e, e2], r⟩
def Slot.wk : Slot → Bool → Slot
  | .own _ i a, true => if i.canF then .val i.F i.iF (i.toF a) else .dead
  | .val α i a, true => .val α i a
  | _, _ => .dead
def opAt : List (Nat × Bool) → Nat → Slot → Slot
  | [], _, s => s
  | (i, b) :: r, n, s => if Nat.beq i n = true then s.wk b else opAt r n s
def wksFrom (ops : List (Nat × Bool)) : Nat → Sto → Sto
  | _, [] => []
  | n, s :: r => opAt ops n s :: wksFrom ops (n + 1) r
def wks (ρ : Sto) (ops : List (Nat × Bool)) : Sto := wksFrom ops 0 ρ
theorem wksFrom_get (ops : List (Nat × Bool)) : ∀ (ρ : Sto) (n i : Nat), (wksFrom ops n ρ)[i]? = ρ[i]?.map (opAt ops (n + i))
  | [], n, i => by simp [wksFrom]
  | s :: r, n, 0 => by simp [wksFrom]
  | s :: r, n, i + 1 => by
    have := wksFrom_get ops r (n + 1) i
    simp only [wksFrom, List.getElem?_cons_succ, this]
    rw [show n + 1 + i = n + (i + 1) by omega]
theorem wksFrom_len (ops : List (Nat × Bool)) : ∀ (ρ : Sto) (n : Nat), (wksFrom ops n ρ).length = ρ.length
  | [], n => rfl
  | s :: r, n => by simp [wksFrom, wksFrom_len ops r (n + 1)]
def wksN (ρ : Sto) (ops : List (Nat × Bool)) (n : Nat) : Sto := (wks ρ ops).take n ++ ρ.drop n
theorem wksN_zero (ρ : Sto) (ops : List (Nat × Bool)) : wksN ρ ops 0 = ρ := by simp [wksN]
theorem wksN_all (ρ : Sto) (ops : List (Nat × Bool)) : wksN ρ ops ρ.length = wks ρ ops := by
  unfold wksN wks
  rw [List.drop_length, List.append_nil, List.take_of_length_le (by rw [wksFrom_len]; exact Nat.le_refl _)]
theorem wksN_succ (ρ : Sto) (ops : List (Nat × Bool)) {n : Nat} {s : Slot} (h : ρ[n]? = some s) : wksN ρ ops (n + 1) = (wksN ρ ops n).set n (opAt ops n s) ∧ (wksN ρ ops n)[n]? = some s := by
  have hn : n < ρ.length := (List.getElem?_eq_some_iff.mp h).1
  have hl : (wks ρ ops).length = ρ.length := wksFrom_len ops ρ 0
  have ht : ((wks ρ ops).take n).length = n := by rw [List.length_take]; omega
  have hd : ρ.drop n = s :: ρ.drop (n + 1) := by
    obtain ⟨h1, h2⟩ := List.getElem?_eq_some_iff.mp h
    rw [List.drop_eq_getElem_cons h1, h2]
  have hw : (wks ρ ops)[n]? = some (opAt ops n s) := by
    have := wksFrom_get ops ρ 0 n
    rw [Nat.zero_add, h] at this
    exact this
  constructor
  · unfold wksN
    rw [hd]
    have e := List.set_append_right (s := List.take n (wks ρ ops)) (t := s :: List.drop (n + 1) ρ) (i := n) (x := opAt ops n s) (by omega)
    refine Eq.trans ?_ e.symm
    rw [ht, Nat.sub_self]
    show _ = List.take n (wks ρ ops) ++ (opAt ops n s :: List.drop (n + 1) ρ)
    rw [List.take_succ, hw]
    simp
  · unfold wksN
    rw [List.getElem?_append_right (by omega), ht, Nat.sub_self, hd]
    rfl
theorem At.drop {i : Nat} (A : At Γ B ρ G H σ) : At Γ B (ρ.set i .dead) G H σ := by
  by_cases hi : i < ρ.length
  · obtain ⟨φ, h1, h3⟩ := A.slots
    have hs : i < σ.length := by rw [h1.len]; exact hi
    have e : σ.set i σ[i] = σ := by simp
    refine ⟨A.sub, A.le, A.keep, A.live, A.thin, ⟨setφ φ i [], ?_, fun j a ha => ?_⟩, A.fix⟩
    · have := h1.set hi (o := σ[i]) (s := .dead) (fp := []) rfl fun j x _ hx => by simp at hx
      rw [e] at this
      exact this
    · rcases mem_setφ ha with ⟨_, q⟩ | ⟨_, q⟩
      · simp at q
      · exact h3 j a q
  · rw [List.set_eq_of_length_le (by omega)]
    exact A
inductive LkT (P : Hp → Prop) : Hp → Prop
  | done {H : Hp} (h : P H) : LkT P H
  | lock {H : Hp} (d : Addr) (u : HO) (h : H d = some u) (mu : Mut (some u)) (k : ∀ od, LkT P (upd H d (.frz od u))) : LkT P H
theorem LkT.mono {P P' : Hp → Prop} {H : Hp} (h : LkT P H) (f : ∀ H, P H → P' H) : LkT P' H := by
  induction h with
  | done h => exact .done (f _ h)
  | lock d u h mu k ih => exact .lock d u h mu fun od => ih od
theorem LkT.join {P : Hp → Prop} {H : Hp} (h : LkT (fun H => LkT P H) H) : LkT P H := by
  induction h with
  | done h => exact h
  | lock d u h mu k ih => exact .lock d u h mu fun od => ih od
theorem LkT.run {P : Hp → Prop} {X : Cx} {pins : List (Addr × Obj)} {σ : St} {H : Hp} {s : Shared} (I : Inv X pins σ H s) (h : LkT P H) : ∃ H', Inv X pins σ H' s ∧ P H' := by
  induction h with
  | done h => exact ⟨_, I, h⟩
  | lock d u h mu k ih =>
    obtain ⟨od, I1⟩ := I.lock h mu
    exact ih od I1
theorem lkd_some {H : Hp} {fp : List Addr} {ob : Addr → Obj} {x : Addr} (h : H x ≠ none) : lkd H fp ob x ≠ none := by
  cases q : H x with
  | none => exact absurd q h
  | some o =>
    by_cases hx : x ∈ fp
    · by_cases n : isDk o
      · rw [lkd_d hx q n]; simp
      · rw [lkd_nd q n]; simp
    · rw [lkd_out hx, q]; simp
theorem lkd_T {P : Hp → Prop} : ∀ (fp : List Addr) {H : Hp}, (∀ ob, P (lkd H fp ob)) → LkT P H
  | [], H, h => .done (by
    have := h fun _ => default
    have e : lkd H [] (fun _ => default) = H := by funext x; unfold lkd; simp
    rw [e] at this; exact this)
  | a :: r, H, h => by
    have same : ¬ (∃ o, H a = some o ∧ isDk o) → LkT P H := fun hn => lkd_T r fun ob => by
      have e : lkd H r ob = lkd H (a :: r) ob := by
        funext x
        by_cases hx : x ∈ r
        · unfold lkd; rw [if_pos hx, if_pos (List.mem_cons_of_mem _ hx)]
        · by_cases hxa : x = a
          · subst hxa
            rw [lkd_out hx]
            cases q : H x with
            | none => unfold lkd; rw [if_pos List.mem_cons_self, q]
            | some o => rw [lkd_nd q fun n => hn ⟨o, q, n⟩]
          · rw [lkd_out hx, lkd_out]
            intro z
            rcases List.mem_cons.mp z with z | z
            · exact hxa z
            · exact hx z
      rw [e]; exact h ob
    have go : ∀ o, H a = some o → isDk o → Mut (some o) → LkT P H := fun o ho hd mu => .lock a o ho mu fun od => lkd_T r fun ob => by
      have e : lkd (upd H a (.frz od o)) r ob = lkd H (a :: r) (fun x => if x = a then od else ob x) := by
        funext x
        by_cases hxa : x = a
        · subst hxa
          rw [lkd_d (List.mem_cons_self) ho hd, if_pos rfl]
          exact lkd_nd upd_same fun q => q
        · by_cases hx : x ∈ r
          · unfold lkd
            rw [if_pos hx, if_pos (List.mem_cons_of_mem _ hx), upd_ne hxa]
            simp only [if_neg hxa]
          · rw [lkd_out hx, upd_ne hxa, lkd_out]
            intro z
            rcases List.mem_cons.mp z with z | z
            · exact hxa z
            · exact hx z
      rw [e]; exact h _
    cases q : H a with
    | none => exact same fun ⟨o, h1, _⟩ => by rw [q] at h1; cases h1
    | some o =>
      cases o with
      | dK k => exact go _ q trivial trivial
      | dT k => exact go _ q trivial trivial
      | _ => exact same fun ⟨o, h1, h2⟩ => by rw [q] at h1; cases h1; exact h2
def drpd (G : Hp) (fp : List Addr) : Hp := fun x => if x ∈ fp then none else G x
theorem At.freezeX {α : Type} {I : Ow α} {a : α} {i : Nat} (A : At Γ B ρ G H σ) (h : ρ[i]? = some (.own α I a)) (hc : I.canF = true) {φ : Nat → List Addr} (h1 : SlotsOk Γ G H σ ρ φ) (h3 : ∀ i, ∀ a ∈ φ i, G a = none ∧ (B.H a = none ∨ a ∈ B.M)) (ob : Addr → Obj) : Le G (frzd G (lkd H (φ i) ob) (φ i)) ∧ At Γ B (ρ.set i (.val I.F I.iF (I.toF a))) (frzd G (lkd H (φ i) ob) (φ i)) (lkd H (φ i) ob) σ := by
  have hi : i < ρ.length := (List.getElem?_eq_some_iff.mp h).1
  obtain ⟨o, e1, v, e2, ow⟩ := h1.ok i _ h
  have le : Le G (frzd G (lkd H (φ i) ob) (φ i)) := fun x u e => by
    have hx : x ∉ φ i := fun hx => by rw [(h3 i x hx).1] at e; cases e
    show (if x ∈ φ i then lkd H (φ i) ob x else G x) = some u
    rw [if_neg hx]; exact e
  have hs : i < σ.length := by rw [h1.len]; exact hi
  have e : σ.set i (some v) = σ := by
    rw [e2] at e1
    have : σ[i] = some v := by
      have := List.getElem?_eq_getElem hs
      rw [this] at e1
      exact Option.some.inj e1
    rw [← this]; simp
  refine ⟨le, fun x u q => ?_, A.le.trans le, fun x u hx q => ?_, fun x hx => lkd_some (A.live x hx), fun x hxm hx hb => ?_, ⟨setφ φ i [], ?_, fun j x hx => ?_⟩, A.fix⟩
  · by_cases hx : x ∈ φ i
    · have q' : (if x ∈ φ i then lkd H (φ i) ob x else G x) = some u := q
      rw [if_pos hx] at q'
      exact q'
    · have q' : (if x ∈ φ i then lkd H (φ i) ob x else G x) = some u := q
      rw [if_neg hx] at q'
      rw [lkd_out hx]
      exact A.sub x u q'
  · have hm : x ∉ φ i := fun hm => by
      rcases (h3 i x hm).2 with w | w
      · rw [w] at q; cases q
      · exact hx w
    rw [lkd_out hm]; exact A.keep x u hx q
  · by_cases hm : x ∈ φ i
    · rcases (h3 i x hm).2 with q | q
      · exact absurd q hx
      · exact absurd q hxm
    · show Th _ (if x ∈ φ i then lkd H (φ i) ob x else G x)
      rw [if_neg hm]; exact A.thin x hxm hx hb
  · have h2 : SlotsOk Γ (frzd G (lkd H (φ i) ob) (φ i)) (lkd H (φ i) ob) σ (ρ.set i .dead) (setφ φ i []) := by
      refine ⟨by simp [h1.len], fun j s hj => ?_, fun j k x hx hy => ?_, fun j hj => ?_⟩
      · by_cases z : j = i
        · subst z
          rw [List.getElem?_set_self hi] at hj
          cases hj
          exact ⟨o, e1, by rw [setφ_same]; exact rfl⟩
        · rw [List.getElem?_set_ne (Ne.symm z)] at hj
          obtain ⟨o', q1, q2⟩ := h1.ok j s hj
          refine ⟨o', q1, ?_⟩
          rw [setφ_ne z]
          exact q2.grow le fun x hx u e => by rw [lkd_out fun hm => z (h1.apart j i x hx hm)]; exact e
      · rcases mem_setφ hx with ⟨e, hx⟩ | ⟨e, hx⟩
        · simp at hx
        · rcases mem_setφ hy with ⟨e', hy⟩ | ⟨e', hy⟩
          · simp at hy
          · exact h1.apart j k x hx hy
      · have z : j ≠ i := by
          intro z
          rw [List.length_set, z] at hj
          omega
        rw [setφ_ne z]
        exact h1.out j (by simpa using hj)
    have := h2.set (i := i) (by simpa using hi) (o := some v) (s := .val I.F I.iF (I.toF a)) (fp := []) ⟨rfl, v, rfl, I.fz hc ob ow le⟩ fun j x _ hx => by simp at hx
    rw [e, List.set_set] at this
    have ee : setφ (setφ φ i []) i [] = setφ φ i [] := by
      funext j
      unfold setφ
      by_cases hj : j = i
      · rw [if_pos hj, if_pos hj]
      · rw [if_neg hj, if_neg hj]
    rw [ee] at this
    exact this
  · rcases mem_setφ hx with ⟨_, q⟩ | ⟨hj, q⟩
    · simp at q
    · refine ⟨?_, (h3 j x q).2⟩
      have hm : x ∉ φ i := fun z => hj (h1.apart j i x q z)
      show (if x ∈ φ i then lkd H (φ i) ob x else G x) = none
      rw [if_neg hm]; exact (h3 j x q).1
theorem At.freeze {α : Type} {I : Ow α} {a : α} {i : Nat} (A : At Γ B ρ G H σ) (h : ρ[i]? = some (.own α I a)) (hc : I.canF = true) : LkT (fun H' => ∃ G', Le G G' ∧ At Γ B (ρ.set i (.val I.F I.iF (I.toF a))) G' H' σ) H := by
  obtain ⟨φ, h1, h3⟩ := A.slots
  exact lkd_T (φ i) fun ob => ⟨_, A.freezeX h hc h1 h3 ob⟩
theorem At.wk1 {i : Nat} {s : Slot} (b : Bool) (A : At Γ B ρ G H σ) (h : ρ[i]? = some s) : LkT (fun H' => ∃ G', Le G G' ∧ At Γ B (ρ.set i (s.wk b)) G' H' σ) H := by
  cases s with
  | dead => exact .done ⟨G, .refl _, A.drop⟩
  | val α I a =>
    cases b with
    | false => exact .done ⟨G, .refl _, A.drop⟩
    | true =>
      refine .done ⟨G, .refl _, ?_⟩
      have e : ρ.set i (.val α I a) = ρ := by
        obtain ⟨hi, e⟩ := List.getElem?_eq_some_iff.mp h
        rw [← e]; simp
      show At Γ B (ρ.set i (.val α I a)) G H σ
      rw [e]; exact A
  | own α I a =>
    cases b with
    | false => exact .done ⟨G, .refl _, A.drop⟩
    | true =>
      show LkT (fun H' => ∃ G', Le G G' ∧ At Γ B (ρ.set i (if I.canF then .val I.F I.iF (I.toF a) else .dead)) G' H' σ) H
      by_cases hc : I.canF = true
      · rw [if_pos hc]; exact A.freeze h hc
      · rw [if_neg hc]; exact .done ⟨G, .refl _, A.drop⟩
theorem At.op1 {i : Nat} {s : Slot} (ops : List (Nat × Bool)) (A : At Γ B ρ G H σ) (h : ρ[i]? = some s) : LkT (fun H' => ∃ G', Le G G' ∧ At Γ B (ρ.set i (opAt ops i s)) G' H' σ) H := by
  induction ops with
  | nil =>
    refine .done ⟨G, .refl _, ?_⟩
    have e : ρ.set i s = ρ := by
      obtain ⟨hi, e⟩ := List.getElem?_eq_some_iff.mp h
      rw [← e]; simp
    show At Γ B (ρ.set i s) G H σ
    rw [e]; exact A
  | cons o r ih =>
    obtain ⟨j, b⟩ := o
    unfold opAt
    by_cases hj : Nat.beq j i = true
    · rw [if_pos hj]; exact A.wk1 b h
    · rw [if_neg hj]; exact ih
theorem At.wksTo (ops : List (Nat × Bool)) : ∀ (n : Nat) {ρ : Sto} {G H : Hp}, n ≤ ρ.length → At Γ B ρ G H σ → LkT (fun H' => ∃ G', Le G G' ∧ At Γ B (wksN ρ ops n) G' H' σ) H
  | 0, ρ, G, H, _, A => .done ⟨G, .refl _, by rw [wksN_zero]; exact A⟩
  | n + 1, ρ, G, H, hn, A => by
    have h : ρ[n]? = some ρ[n] := List.getElem?_eq_getElem (by omega)
    obtain ⟨h1, h2⟩ := wksN_succ ρ ops h
    rw [h1]
    refine ((At.wksTo ops n (by omega) A).mono fun H1 ⟨G1, l1, A1⟩ => ?_).join
    exact (A1.op1 ops h2).mono fun H2 ⟨G2, l2, A2⟩ => ⟨G2, l1.trans l2, A2⟩
theorem At.wks (ops : List (Nat × Bool)) {ρ : Sto} {G H : Hp} (A : At Γ B ρ G H σ) : LkT (fun H' => ∃ G', Le G G' ∧ At Γ B (Sim.wks ρ ops) G' H' σ) H := by
  have := At.wksTo ops ρ.length (Nat.le_refl _) A
  rw [wksN_all] at this
  exact this
theorem At.getO {α : Type} {I : Ow α} {a : α} {i : Nat} (A : At Γ B ρ G H σ) (h : ρ[i]? = some (.own α I a)) : ∃ v fp, σ[i]? = some (some v) ∧ I.own Γ G H v fp a ∧ (∀ x ∈ fp, G x = none) := by
  obtain ⟨φ, h1, h3⟩ := A.slots
  obtain ⟨o, e, v, e2, r⟩ := h1.ok i _ h
  exact ⟨v, φ i, by rw [e, e2], r, fun x hx => (h3 i x hx).1⟩
end
end Sim
namespace Sim
open PySem L2
open Rp (rep)
open At1 (toV)
open K1 (key)
open KT (keys)
open Ow (own)
def cE (Γ : Gm) (B : Bs) (ρ : Sto) {α : Type} [Rp α] (m : Option α) : TE := fun σ H Q => ∃ G a, At Γ B ρ G H σ ∧ m = some a ∧ ∀ v G' H', Grow G H G' H' → rep Γ G' v a → Q v H'
def cT (Γ : Gm) (B : Bs) (ρ : Sto) (m : Option Bool) : TT := fun σ H Q => ∃ G a, At Γ B ρ G H σ ∧ m = some a ∧ ∀ G' H', Grow G H G' H' → Q a H'
def cR (Γ : Gm) (B : Bs) (ρ : Sto) {α : Type} [Rp α] (m : Option (List α)) : TE := fun σ H Q => ∃ G xs, At Γ B ρ G H σ ∧ m = some xs ∧ ∀ p vs G' H', Grow G H G' H' → H' p = some (.lst vs) → RpL Γ G' vs xs → Q (.ref p) H'
def cDK (Γ : Gm) (B : Bs) (ρ : Sto) {κ α : Type} [K1 κ] [Rp α] (m : Option (List (κ × α))) : TE := fun σ H Q => ∃ G xs, At Γ B ρ G H σ ∧ m = some xs ∧ ∀ p kvs G' H', Grow G H G' H' → Rd H' p (.dK kvs) → RpK Γ G' kvs xs → Q (.ref p) H'
def cDT (Γ : Gm) (B : Bs) (ρ : Sto) {κ α : Type} [KT κ] [Rp α] (m : Option (List (κ × α))) : TE := fun σ H Q => ∃ G xs, At Γ B ρ G H σ ∧ m = some xs ∧ ∀ p kvs G' H', Grow G H G' H' → Rd H' p (.dT kvs) → RpT Γ G' kvs xs → Q (.ref p) H'
class RpA (τ : Type) where
  repA : Gm → Hp → List V → τ → Prop
  monoA : ∀ {Γ : Gm} {G G' : Hp} {v : List V} {a : τ}, Le G G' → repA Γ G v a → repA Γ G' v a
  num : Nat
  stoA : τ → Sto
  lenA : ∀ t, (stoA t).length = num
  okA : ∀ {Γ : Gm} {G H : Hp} {vs : List V} {t : τ}, repA Γ G vs t → vs.length = num ∧ ∀ (i : Nat) (s : Slot), (stoA t)[i]? = some s → ∃ v, vs[i]? = some v ∧ SlotOk Γ G H (some v) s []
open RpA (repA)
instance instRpAUnit : RpA Unit := ⟨fun _ _ vs _ => vs = [], fun _ h => h, 0, fun _ => [], fun _ => rfl, fun h => by
  subst h
  exact ⟨rfl, fun i s e => by simp at e⟩⟩
instance instRpAProd {α τ : Type} [I : Rp α] [RpA τ] : RpA (α × τ) := ⟨fun Γ G vs p => ∃ v r, vs = v :: r ∧ rep Γ G v p.1 ∧ repA Γ G r p.2, fun e ⟨v, r, h1, h2, h3⟩ => ⟨v, r, h1, Rp.mono e h2, RpA.monoA e h3⟩, RpA.num τ + 1, fun p => vl p.1 :: RpA.stoA p.2, fun p => by simp [RpA.lenA], fun {Γ G H vs t} h => by
  obtain ⟨v, r, h1, h2, h3⟩ := h
  subst h1
  have q := RpA.okA (H := H) h3
  refine ⟨by simp [q.1], fun i s e => ?_⟩
  cases i with
  | zero =>
    have e' : vl t.1 = s := Option.some.inj e
    subst e'
    exact ⟨v, rfl, rfl, v, rfl, h2⟩
  | succ i =>
    obtain ⟨v', q1, q2⟩ := q.2 i s (by simpa using e)
    exact ⟨v', by simpa using q1, q2⟩⟩
def cA (Γ : Gm) (B : Bs) (ρ : Sto) {τ : Type} [RpA τ] (m : Option τ) : TA := fun σ H Q => ∃ G a, At Γ B ρ G H σ ∧ m = some a ∧ ∀ vs G' H', Grow G H G' H' → repA Γ G' vs a → Q vs H'
def seqO {α : Type} : List (Option α) → Option (List α)
  | [] => some []
  | m :: r => m.bind fun x => (seqO r).bind fun xs => some (x :: xs)
def cL (Γ : Gm) (B : Bs) (ρ : Sto) {α : Type} [Rp α] (ms : List (Option α)) : TA := fun σ H Q => ∃ G xs, At Γ B ρ G H σ ∧ seqO ms = some xs ∧ ∀ vs G' H', Grow G H G' H' → RpL Γ G' vs xs → Q vs H'
theorem imE {X : Cx} {e : Expr} {t t' : TE} (h : PE X e t) (k : ∀ σ H Q, t' σ H Q → t σ H Q) : PE X e t' := ⟨fun pins s σ H Q I q => h.run pins s σ H Q I (k σ H Q q)⟩
theorem imT {X : Cx} {e : Expr} {t t' : TT} (h : PT X e t) (k : ∀ σ H Q, t' σ H Q → t σ H Q) : PT X e t' := ⟨fun pins s σ H Q I q => h.run pins s σ H Q I (k σ H Q q)⟩
theorem imW {X : Cx} {e : Expr} {t t' : TT} (h : PW X e t) (k : ∀ σ H Q, t' σ H Q → t σ H Q) : PW X e t' := ⟨fun w pins s σ H Q I q => h.run w pins s σ H Q I (k σ H Q q)⟩
theorem imA {X : Cx} {e : List Expr} {t t' : TA} (h : PA X e t) (k : ∀ σ H Q, t' σ H Q → t σ H Q) : PA X e t' := ⟨fun p pins s σ H Q I q => h.run p pins s σ H Q I (k σ H Q q)⟩
theorem imS {X : Cx} {e : Stmt} {t t' : TS} (h : PS X e t) (k : ∀ D σ H, t' D σ H → t D σ H) : PS X e t' := ⟨fun pins s σ H D I q => h.run pins s σ H D I (k D σ H q)⟩
theorem imB {X : Cx} {e : List Stmt} {t t' : TS} (h : PSs X e t) (k : ∀ D σ H, t' D σ H → t D σ H) : PSs X e t' := ⟨fun pins s σ H D I q => h.run pins s σ H D I (k D σ H q)⟩
abbrev Ends.lk (D : Ends) : Ends := ⟨fun σ H => LkT (D.nx σ) H, fun v H => LkT (D.rt v) H, fun σ H => LkT (D.bk σ) H, fun σ H => LkT (D.ct σ) H⟩
theorem lkS {X : Cx} {e : Stmt} {t : TS} (h : PS X e t) : PS X e (fun D σ H => LkT (fun H' => t D σ H') H) := ⟨fun pins s σ H D I q => by
  obtain ⟨H', I', q'⟩ := q.run I
  exact h.run pins s σ H' D I' q'⟩
theorem lkB {X : Cx} {e : List Stmt} {t : TS} (h : PSs X e t) : PSs X e (fun D σ H => LkT (fun H' => t D σ H') H) := ⟨fun pins s σ H D I q => by
  obtain ⟨H', I', q'⟩ := q.run I
  exact h.run pins s σ H' D I' q'⟩
theorem sp_lk {X : Cx} {pins : List (Addr × Obj)} {D : Ends} {f : Flow} {s : Shared} (q : SP X pins (Ends.lk D) f s) : SP X pins D f s := by
  cases f with
  | next =>
    obtain ⟨σ', H', I', q⟩ := q
    obtain ⟨H2, I2, q2⟩ := LkT.run I' q
    exact ⟨σ', H2, I2, q2⟩
  | brk =>
    obtain ⟨σ', H', I', q⟩ := q
    obtain ⟨H2, I2, q2⟩ := LkT.run I' q
    exact ⟨σ', H2, I2, q2⟩
  | cont =>
    obtain ⟨σ', H', I', q⟩ := q
    obtain ⟨H2, I2, q2⟩ := LkT.run I' q
    exact ⟨σ', H2, I2, q2⟩
  | ret v =>
    obtain ⟨x, σ', H', I', r, q⟩ := q
    obtain ⟨H2, I2, q2⟩ := LkT.run I' q
    exact ⟨x, σ', H2, I2, r, q2⟩
theorem lkS' {X : Cx} {e : Stmt} {t : TS} (h : PS X e t) : PS X e (fun D σ H => t (Ends.lk D) σ H) := ⟨fun pins s σ H D I q => thn (h.run pins s σ H _ I q) fun f s1 q => sp_lk q⟩
theorem lkB' {X : Cx} {e : List Stmt} {t : TS} (h : PSs X e t) : PSs X e (fun D σ H => t (Ends.lk D) σ H) := ⟨fun pins s σ H D I q => thn (h.run pins s σ H _ I q) fun f s1 q => sp_lk q⟩
theorem allE {X : Cx} {e : Expr} {ι : Type} {t : ι → TE} (h : ∀ i, PE X e (t i)) : PE X e (fun σ H Q => ∃ i, t i σ H Q) := ⟨fun pins s σ H Q I ⟨i, q⟩ => (h i).run pins s σ H Q I q⟩
theorem allB {X : Cx} {e : List Stmt} {ι : Type} {t : ι → TS} (h : ∀ i, PSs X e (t i)) : PSs X e (fun D σ H => ∃ i, t i D σ H) := ⟨fun pins s σ H D I ⟨i, q⟩ => (h i).run pins s σ H D I q⟩
structure Cok (X : Cx) (Γ : Gm) (N : List Str) (sc : Scope) (k : Nat) : Prop where
  hP : X.prog = Γ.P
  hw : X.w = Γ.w
  hK : X.K = Γ.K
  hmg : X.mg = Γ.mg
  hbase : X.base = Γ.base
  hN : X.N = N
  nd : N.Nodup
  hsc : X.env.scope = sc
  calm : X.calm = true
  room : Room k X.A
theorem Cok.hu {X : Cx} {Γ : Gm} {N : List Str} {sc : Scope} {k : Nat} (c : Cok X Γ N sc k) : X.A.units + 1 < cLine := hu_of c.room
theorem Cok.hu64 {X : Cx} {Γ : Gm} {N : List Str} {sc : Scope} {k : Nat} (c : Cok X Γ N sc k) : X.A.units + 64 < cLine := c.room.units
def Glb (sc : Scope) (x : Str) : Prop := sc.names.lookup x = some .globalImplicit
theorem Cok.gl {X : Cx} {Γ : Gm} {N : List Str} {sc : Scope} {k : Nat} (c : Cok X Γ N sc k) {x : Str} (h : Glb sc x) : Gl X x := by
  unfold Gl Env.kindOf
  rw [c.hsc]
  exact h
abbrev XE (X : Cx) (Γ : Gm) (B : Bs) (ρ : Sto) (e : Expr) {α : Type} [Rp α] (m : Option α) : Prop := PE X e (cE Γ B ρ m)
abbrev XT (X : Cx) (Γ : Gm) (B : Bs) (ρ : Sto) (e : Expr) (m : Option Bool) : Prop := PT X e (cT Γ B ρ m)
abbrev XW (X : Cx) (Γ : Gm) (B : Bs) (ρ : Sto) (e : Expr) (m : Option Bool) : Prop := PW X e (cT Γ B ρ m)
abbrev XR (X : Cx) (Γ : Gm) (B : Bs) (ρ : Sto) (e : Expr) {α : Type} [Rp α] (m : Option (List α)) : Prop := PE X e (cR Γ B ρ m)
abbrev XDK (X : Cx) (Γ : Gm) (B : Bs) (ρ : Sto) (e : Expr) {κ α : Type} [K1 κ] [Rp α] (m : Option (List (κ × α))) : Prop := PE X e (cDK Γ B ρ m)
abbrev XDT (X : Cx) (Γ : Gm) (B : Bs) (ρ : Sto) (e : Expr) {κ α : Type} [KT κ] [Rp α] (m : Option (List (κ × α))) : Prop := PE X e (cDT Γ B ρ m)
abbrev XA (X : Cx) (Γ : Gm) (B : Bs) (ρ : Sto) (es : List Expr) {τ : Type} [RpA τ] (m : Option τ) : Prop := PA X es (cA Γ B ρ m)
abbrev XL (X : Cx) (Γ : Gm) (B : Bs) (ρ : Sto) (es : List Expr) {α : Type} [Rp α] (ms : List (Option α)) : Prop := PA X es (cL Γ B ρ ms)
abbrev b2 {α β γ : Type} (ma : Option α) (mb : Option β) (f : α → β → Option γ) : Option γ := ma.bind fun x => mb.bind fun y => f x y
theorem ite_some {α : Type} {c : Prop} [Decidable c] {x z : α} (h : (if c then some x else none) = some z) : c ∧ x = z := by
  by_cases hc : c
  · rw [if_pos hc] at h; exact ⟨hc, Option.some.inj h⟩
  · rw [if_neg hc] at h; cases h
section
variable {X : Cx} {Γ : Gm} {B : Bs} {ρ : Sto} {N : List Str} {sc : Scope} {k : Nat} {pos : Pos} {e a b : Expr} {α β γ : Type} [Rp α] [Rp β] [Rp γ]
variable {m : Option α} {ma : Option α} {mb : Option β}
theorem pv_ (c : Cok X Γ N sc k) {x : Str} {i : Nat} (hN : N[i]? = some x) (hv : Vis sc x) (hd : (x == ("__debug__" : Str)) = false) (hcd : (x == ("__classdict__" : Str)) = false) : PE X (.Name x pos) (tVar i) :=
  pe_var (X := X) (i := i) (by rw [c.hN]; exact hN) (by rw [c.hsc]; exact hv) hd hcd
theorem xe_var (c : Cok X Γ N sc k) {x : Str} (i : Nat) {I : Rp α} {z : α} (hi : ρ[i]? = some (.val α I z)) (hN : N[i]? = some x) (hv : Vis sc x) (hd : (x == ("__debug__" : Str)) = false := by decide) (hcd : (x == ("__classdict__" : Str)) = false := by decide) :
    @XE X Γ B ρ (.Name x pos) α I (some z) := imE (pv_ c hN hv hd hcd) fun σ H Q ⟨G, z', A, e, q⟩ => by
  cases e
  obtain ⟨v, h1, h2⟩ := A.get hi
  exact ⟨v, h1, q v G H (.refl A.sub) h2⟩
theorem xr_own (c : Cok X Γ N sc k) {x : Str} (i : Nat) {xs : List α} (hi : ρ[i]? = some (ow (OL.mk xs))) (hN : N[i]? = some x) (hv : Vis sc x) (hd : (x == ("__debug__" : Str)) = false := by decide) (hcd : (x == ("__classdict__" : Str)) = false := by decide) :
    XR X Γ B ρ (.Name x pos) (some xs) := imE (pv_ c hN hv hd hcd) fun σ H Q ⟨G, z', A, e, q⟩ => by
  cases e
  obtain ⟨v, fp, h1, ⟨p, vs, rfl, h3, h4, h5⟩, h6⟩ := A.getO hi
  exact ⟨.ref p, h1, q p vs G H (.refl A.sub) h4 h5⟩
theorem xk_own {κ : Type} [K1 κ] (c : Cok X Γ N sc k) {x : Str} (i : Nat) {xs : List (κ × α)} (hi : ρ[i]? = some (ow (OK.mk xs))) (hN : N[i]? = some x) (hv : Vis sc x) (hd : (x == ("__debug__" : Str)) = false := by decide) (hcd : (x == ("__classdict__" : Str)) = false := by decide) :
    XDK X Γ B ρ (.Name x pos) (some xs) := imE (pv_ c hN hv hd hcd) fun σ H Q ⟨G, z', A, e, q⟩ => by
  cases e
  obtain ⟨v, fp, h1, ⟨p, vs, rfl, h3, h4, h5⟩, h6⟩ := A.getO hi
  exact ⟨.ref p, h1, q p vs G H (.refl A.sub) (.inl h4) h5⟩
theorem xr_of {m : Option (List α)} (h : XE X Γ B ρ e m) : XR X Γ B ρ e m := imE h fun σ H Q ⟨G, xs, A, e, q⟩ => ⟨G, xs, A, e, fun v G' H' g ⟨p, vs, h1, h2, h3⟩ => by
  subst h1
  exact q p vs G' H' g (g.sub.lst h2) h3⟩
theorem xt_of {κ : Type} [KT κ] {m : Option (DT κ α)} (h : XE X Γ B ρ e m) : XDT X Γ B ρ e (m.bind fun d => some d.l) := imE h fun σ H Q ⟨G, xs, A, e, q⟩ => by
  cases m with
  | none => cases e
  | some d =>
    cases e
    exact ⟨G, d, A, rfl, fun v G' H' g ⟨p, vs, ob, h1, h2, h3⟩ => by
      subst h1
      exact q p vs G' H' g (g.sub.rd h2) h3⟩
theorem xe_c {v : V} (h : PE X e (tC v)) {α : Type} [At1 α] {z : α} (hz : toV z = v) : XE X Γ B ρ e (some z) := imE h fun σ H Q ⟨G, z', A, e, q⟩ => by
  cases e
  exact q v G H (.refl A.sub) hz.symm
theorem xe_int {i : Int} {j : Nat} : XE X Γ B ρ (.Constant (.int i) j pos) (some i) := xe_c pe_int rfl
theorem xe_bl {b : Bool} {j : Nat} : XE X Γ B ρ (.Constant (.bool b) j pos) (some b) := xe_c pe_bl rfl
theorem xe_str {x : Str} {j : Nat} {h : PyData.strOk x = true} : XE X Γ B ρ (.Constant (.str x) j pos) (some (Tt.mk x h)) := xe_c pe_str rfl
theorem xe_glob (c : Cok X Γ N sc k) {x : Str} {u : Value} {α : Type} [At1 α] {z : α} (hg : Glb sc x) (hm : Γ.mg x = some u) (r : RelV (toV z) u) (hd : (x == ("__debug__" : Str)) = false := by decide) : XE X Γ B ρ (.Name x pos) (some z) :=
  xe_c (pe_glob (c.gl hg) (by rw [c.hmg]; exact hm) r hd) rfl
theorem xe_eq {m' : Option α} (h : XE X Γ B ρ e m) (q : m = m') : XE X Γ B ρ e m' := q ▸ h
def isFz : HO → Prop
  | .frz _ _ => True
  | _ => False
class NoDk (α : Type) [Rp α] : Prop where
  nodk : ∀ {Γ : Gm} {G G' : Hp} {v : V} {a : α}, (∀ x o, ¬ isFz o → G x = some o → G' x = some o) → rep Γ G v a → rep Γ G' v a
instance (priority := 60) {α : Type} [At1 α] : NoDk α := ⟨fun _ r => rep1 r⟩
theorem RpL.nodk {α : Type} [Rp α] [NoDk α] {G G' : Hp} {vs : List V} {xs : List α} (h : ∀ x o, ¬ isFz o → G x = some o → G' x = some o) (r : RpL Γ G vs xs) : RpL Γ G' vs xs := Paired.mapP r fun _ _ r => NoDk.nodk h r
instance {α : Type} [Rp α] [NoDk α] : NoDk (List α) := ⟨fun h ⟨a, vs, h1, h2, h3⟩ => ⟨a, vs, h1, h _ _ (fun q => q) h2, h3.nodk h⟩⟩
instance {α : Type} [Rp α] [NoDk α] : NoDk (TL α) := ⟨fun h ⟨a, vs, h1, h2, h3⟩ => ⟨a, vs, h1, h _ _ (fun q => q) h2, RpL.nodk h h3⟩⟩
instance {α β : Type} [Rp α] [NoDk α] [Rp β] [NoDk β] : NoDk (α × β) := ⟨fun h ⟨a, x, y, h1, h2, h3, h4⟩ => ⟨a, x, y, h1, h _ _ (fun q => q) h2, NoDk.nodk h h3, NoDk.nodk h h4⟩⟩
instance {α β γ : Type} [Rp α] [NoDk α] [Rp β] [NoDk β] [Rp γ] [NoDk γ] : NoDk (T3 α β γ) := ⟨fun h ⟨a, x, y, z, h1, h2, h3, h4, h5⟩ => ⟨a, x, y, z, h1, h _ _ (fun q => q) h2, NoDk.nodk h h3, NoDk.nodk h h4, NoDk.nodk h h5⟩⟩
instance {α : Type} [Rp α] [NoDk α] : NoDk (Option α) := ⟨fun {Γ G G' v o} h r => by
  cases o with
  | none => exact r
  | some a => exact ⟨r.1, NoDk.nodk h r.2⟩⟩
def Op2 (Γ : Gm) (r : R2) (f : α → β → Option γ) : Prop := ∀ (G H : Hp) (x y : V) (p : α) (q : β) (z : γ), Sub G H → rep Γ G x p → rep Γ G y q → f p q = some z → ∀ Q : VK, (∀ v G' H', Grow G H G' H' → rep Γ G' v z → Q v H') → r x y H Q
theorem sim2 {r : R2} {f : α → β → Option γ} (hf : Op2 Γ r f) {σ : St} {H : Hp} {Q : VK} (h : cE Γ B ρ (b2 ma mb f) σ H Q) : tOp r (cE Γ B ρ ma) (cE Γ B ρ mb) σ H Q := by
  obtain ⟨G, z, A, e, q⟩ := h
  cases ma with
  | none => cases e
  | some x =>
    cases mb with
    | none => cases e
    | some y =>
      refine ⟨G, x, A, rfl, fun v1 G1 H1 g1 r1 => ⟨G1, y, A.grow g1, rfl, fun v2 G2 H2 g2 r2 => ?_⟩⟩
      exact hf G2 H2 v1 v2 x y z g2.sub (Rp.mono g2.leG r1) r2 e _ fun v G' H' g r => q v G' H' ((g1.trans g2).trans g) r
theorem xe_op2 {op : Operator} {r : R2} {f : α → β → Option γ} (ho : OpR X (binaryOp op) r) (hf : Op2 Γ r f) (ha : XE X Γ B ρ a ma) (hb : XE X Γ B ρ b mb) : XE X Γ B ρ (.BinOp a op b pos) (b2 ma mb f) :=
  imE (pe_op ho ha hb) fun _ _ _ h => sim2 hf h
theorem op2_pure {α β γ : Type} [At1 α] [At1 β] [At1 γ] {r : R2} {f : α → β → Option γ} (h : ∀ (p : α) (q : β) (z : γ) (H : Hp) (Q : VK), f p q = some z → Q (toV z) H → r (toV p) (toV q) H Q) : Op2 Γ r f :=
  fun G H x y p q z s h1 h2 e Q k => by
    rw [rep1 h1, rep1 h2]
    exact h p q z H Q e (k _ G H (.refl s) rfl)
theorem o_add : Op2 Γ (rI0 fun i j => .int (i + j)) fun (i j : Int) => some (i + j) := op2_pure fun p q z H Q e k => ⟨p, q, rfl, rfl, by cases e; exact k⟩
theorem o_sub : Op2 Γ (rI0 fun i j => .int (i - j)) fun (i j : Int) => some (i - j) := op2_pure fun p q z H Q e k => ⟨p, q, rfl, rfl, by cases e; exact k⟩
theorem o_lt : Op2 Γ (rI0 fun i j => .bl (decide (i < j))) fun (i j : Int) => some (decide (i < j)) := op2_pure fun p q z H Q e k => ⟨p, q, rfl, rfl, by cases e; exact k⟩
theorem o_gt : Op2 Γ (rI0 fun i j => .bl (decide (j < i))) fun (i j : Int) => some (decide (j < i)) := op2_pure fun p q z H Q e k => ⟨p, q, rfl, rfl, by cases e; exact k⟩
@[irreducible] def pmod (i j : Int) : Option Int := if 0 < j then some (i % j) else none
@[irreducible] def pdiv (i j : Int) : Option Int := if 0 < j ∧ j.natAbs < 1073741824 then some (i / j) else none
@[irreducible] def pmul (i j : Int) : Option Int := if i.natAbs < 2 ^ 64 ∨ j.natAbs < 2 ^ 64 then some (i * j) else none
theorem o_mod : Op2 Γ (rI (fun _ j => 0 < j) fun i j => .int (i % j)) pmod := op2_pure fun p q z H Q e k => by
  unfold pmod at e
  obtain ⟨h, e⟩ := ite_some e
  exact ⟨p, q, rfl, rfl, h, by subst e; exact k⟩
theorem o_div : Op2 Γ (rI CDiv fun i j => .int (i / j)) pdiv := op2_pure fun p q z H Q e k => by
  unfold pdiv at e
  obtain ⟨h, e⟩ := ite_some e
  exact ⟨p, q, rfl, rfl, ⟨h.1, by omega⟩, by subst e; exact k⟩
theorem o_mul : Op2 Γ (rI CMul fun i j => .int (i * j)) pmul := op2_pure fun p q z H Q e k => by
  unfold pmul at e
  obtain ⟨h, e⟩ := ite_some e
  exact ⟨p, q, rfl, rfl, h.imp (fun h => by omega) (fun h => by omega), by subst e; exact k⟩
theorem o_eqI : Op2 Γ rEq fun (i j : Int) => some (decide (i = j)) := op2_pure fun p q z H Q e k => ⟨rfl, by cases e; first | (show Q (V.bl (decide (V.int p = V.int q))) H; rw [dec_int, Bool.beq_eq_decide_eq]; exact k) | (show Q (V.bl (!decide (V.int p = V.int q))) H; rw [dec_int, Bool.beq_eq_decide_eq]; exact k)⟩
theorem o_neI : Op2 Γ rNe fun (i j : Int) => some (!decide (i = j)) := op2_pure fun p q z H Q e k => ⟨rfl, by cases e; first | (show Q (V.bl (decide (V.int p = V.int q))) H; rw [dec_int, Bool.beq_eq_decide_eq]; exact k) | (show Q (V.bl (!decide (V.int p = V.int q))) H; rw [dec_int, Bool.beq_eq_decide_eq]; exact k)⟩
theorem o_neB : Op2 Γ rNe fun (i j : Bool) => some (!decide (i = j)) := op2_pure fun p q z H Q e k => ⟨rfl, by cases e; first | (show Q (V.bl (decide (V.bl p = V.bl q))) H; rw [dec_bl, Bool.beq_eq_decide_eq]; exact k) | (show Q (V.bl (!decide (V.bl p = V.bl q))) H; rw [dec_bl, Bool.beq_eq_decide_eq]; exact k)⟩
theorem decTt (p q : Tt) : decide (V.str p.s = V.str q.s) = decide (p = q) := decide_eq_decide.mpr ⟨fun h => Tt.ext' (V.str.inj h), fun h => by rw [h]⟩
theorem o_eqS : Op2 Γ rEq fun (i j : Tt) => some (decide (i = j)) := op2_pure fun p q z H Q e k => ⟨rfl, by cases e; show Q (V.bl (decide (V.str p.s = V.str q.s))) H; rw [decTt]; exact k⟩
end
end Sim
namespace Sim
open PySem L2
open Rp (rep)
open At1 (toV)
open K1 (key)
open KT (keys)
open Ow (own)
open RpA (repA)
structure Er where
  cls : Nat
  line : Int := 0
def IsEr (Γ : Gm) (e : Er) (cls : Value) (d : Option Addr) (H : Hp) : Prop := cls = .ref (Γ.C e.cls) ∧ if e.cls = 9 then ∃ dd, d = some dd ∧ H dd = some (.xd [("line", .int e.line)]) else d = none
inductive Fl (S L β C : Type) : Type
  | nx (s : S) | bk (l : L) | ct (l : L) | ret (b : β) (c : C) | err (e : Er) (c : C)
structure Kt (L β C : Type) where
  stb : L → Sto
  stc : L → Sto
  str : C → Sto
  fr : Bool
  W : WX
  ow : Option (Gm → Hp → Hp → V → List Addr → β → Prop)
def Fresh (H : Hp) (v : V) : Prop := ∀ p, v = .ref p → H p = none
def OwRet (Γ : Gm) (B : Bs) (ρ : Sto) (G H : Hp) (σ : St) (fp : List Addr) : Prop := ∃ φ, SlotsOk Γ G H σ ρ φ ∧ (∀ i, ∀ a ∈ φ i, G a = none ∧ (B.H a = none ∨ a ∈ B.M)) ∧ (∀ i, ∀ a ∈ φ i, a ∉ fp) ∧ ∀ a ∈ fp, G a = none ∧ (B.H a = none ∨ a ∈ B.M)
def Post (Γ : Gm) (B : Bs) {L β C : Type} [Rp β] (F : Kt L β C) {S : Type} (sto : S → Sto) (D : Ends) : Fl S L β C → Prop
  | .nx s => ∀ G' H' σ', At Γ B (sto s) G' H' σ' → D.nx σ' H'
  | .bk l => ∀ G' H' σ', At Γ B (F.stb l) G' H' σ' → D.bk σ' H'
  | .ct l => ∀ G' H' σ', At Γ B (F.stc l) G' H' σ' → D.ct σ' H'
  | .ret b c => ∀ v G' H' σ', At Γ B (F.str c) G' H' σ' → rep Γ G' v b → (F.fr = true → Fresh B.H v) → (∀ P, F.ow = some P → ∃ fp, P Γ G' H' v fp b ∧ OwRet Γ B (F.str c) G' H' σ' fp) → D.rt v H'
  | .err e c => ∀ cls d G' H' σ', At Γ B (F.str c) G' H' σ' → IsEr Γ e cls d H' → F.W cls d σ' H'
def cP (Γ : Gm) (B : Bs) (ρ : Sto) {S : Type} (m : Option S) (sto : S → Sto) : TS := fun D σ H => ∃ G s, At Γ B ρ G H σ ∧ m = some s ∧ ∀ G' H' σ', At Γ B (sto s) G' H' σ' → D.nx σ' H'
def cS (Γ : Gm) (B : Bs) {L β C : Type} [Rp β] (F : Kt L β C) (ρ : Sto) {S : Type} (m : Option (Fl S L β C)) (sto : S → Sto) : TS := fun D σ H => ∃ G r, At Γ B ρ G H σ ∧ m = some r ∧ Post Γ B F sto D r
abbrev XP1 (X : Cx) (Γ : Gm) (B : Bs) (ρ : Sto) (st : Stmt) {S : Type} (m : Option S) (sto : S → Sto) : Prop := PS X st (cP Γ B ρ m sto)
abbrev XP (X : Cx) (Γ : Gm) (B : Bs) (ρ : Sto) (st : List Stmt) {S : Type} (m : Option S) (sto : S → Sto) : Prop := PSs X st (cP Γ B ρ m sto)
abbrev XB1 (X : Cx) (Γ : Gm) (B : Bs) {L β C : Type} [Rp β] (F : Kt L β C) (ρ : Sto) (st : Stmt) {S : Type} (m : Option (Fl S L β C)) (sto : S → Sto) : Prop := PS X st (cS Γ B F ρ m sto)
abbrev XB (X : Cx) (Γ : Gm) (B : Bs) {L β C : Type} [Rp β] (F : Kt L β C) (ρ : Sto) (st : List Stmt) {S : Type} (m : Option (Fl S L β C)) (sto : S → Sto) : Prop := PSs X st (cS Γ B F ρ m sto)
structure Dok (X : Cx) (Γ : Gm) (B : Bs) (N : List Str) (sc : Scope) (k : Nat) (fx : List Nat) (W : WX) (M : List Addr) : Prop extends Cok X Γ N sc k where
  own : PassesOwn (model X.prog X.w) X.A X.env X.xe
  hfn : ∀ x, X.fn x = true
  tk : L2N.Takes X W
  hfx : B.fx = fx
  hM : B.M = M
  stk : X.stack = X.env :: X.outer
  frm : X.env.frame = some X.env.locals
section
variable {X : Cx} {Γ : Gm} {B : Bs} {L β C : Type} [Rp β] {F : Kt L β C} {ρ ρ' : Sto} {N : List Str} {sc : Scope} {k : Nat} {fx : List Nat} {W : WX} {M : List Addr} {pos : Pos} {e a b : Expr} {st : Stmt} {sts rest : List Stmt} {S S1 S2 : Type} {m : Option S} {sto : S → Sto}
variable {α : Type} [Rp α]
theorem xt_val {m : Option Bool} (h : XE X Γ B ρ e m) (he : ∀ whole, isTrue e X.env whole = (do let v ← whole; standAt e.pos; holding [v] (truthy v)) := by intro _; rfl) : XT X Γ B ρ e m := imT (pt_val h he) fun σ H Q ⟨G, z, A, e, q⟩ =>
  ⟨G, z, A, e, fun v G' H' g r => ⟨z, rep1 r, q G' H' g⟩⟩
theorem xt_not {m : Option Bool} (h : XT X Γ B ρ a m) : XT X Γ B ρ (.UnaryOp .Not a pos) (m.bind fun x => some (!x)) := imT (pt_not h) fun σ H Q ⟨G, z, A, e, q⟩ => by
  cases m with
  | none => cases e
  | some x =>
    cases e
    exact ⟨G, x, A, rfl, q⟩
theorem xw_and1 {m : Option Bool} (h : XT X Γ B ρ a m) : XW X Γ B ρ (.BoolOp .And [a] pos) m := pw_and1 h
theorem xw_or1 {m : Option Bool} (h : XT X Γ B ρ a m) : XW X Γ B ρ (.BoolOp .Or [a] pos) m := pw_or1 h
def andM (a b : Option Bool) : Option Bool := a.bind fun x => if x = true then b else some false
def orM (a b : Option Bool) : Option Bool := a.bind fun x => if x = true then some true else b
theorem xw_and {ma mb : Option Bool} {es : List Expr} (ha : XT X Γ B ρ a ma) (hb : XW X Γ B ρ (.BoolOp .And (b :: es) pos) mb) : XW X Γ B ρ (.BoolOp .And (a :: b :: es) pos) (andM ma mb) := imW (pw_and ha hb) fun σ H Q ⟨G, z, A, e, q⟩ => by
  cases ma with
  | none => cases e
  | some x =>
    refine ⟨G, x, A, rfl, fun G1 H1 g1 => ?_⟩
    cases x with
    | true => exact ⟨G1, z, A.grow g1, e, fun G' H' g => q G' H' (g1.trans g)⟩
    | false =>
      cases e
      exact q G1 H1 g1
theorem xw_or {ma mb : Option Bool} {es : List Expr} (ha : XT X Γ B ρ a ma) (hb : XW X Γ B ρ (.BoolOp .Or (b :: es) pos) mb) : XW X Γ B ρ (.BoolOp .Or (a :: b :: es) pos) (orM ma mb) := imW (pw_or ha hb) fun σ H Q ⟨G, z, A, e, q⟩ => by
  cases ma with
  | none => cases e
  | some x =>
    refine ⟨G, x, A, rfl, fun G1 H1 g1 => ?_⟩
    cases x with
    | false => exact ⟨G1, z, A.grow g1, e, fun G' H' g => q G' H' (g1.trans g)⟩
    | true =>
      cases e
      exact q G1 H1 g1
theorem xt_w {m : Option Bool} (h : XW X Γ B ρ e m) : XT X Γ B ρ e m := PW.pt h
theorem xt_eq {m m' : Option Bool} (h : XT X Γ B ρ e m) (q : m = m') : XT X Γ B ρ e m' := q ▸ h
theorem xe_and1 {op : BoolOp} {m : Option Bool} (h : XE X Γ B ρ a m) : XE X Γ B ρ (.BoolOp op [a] pos) m := pe_one h
theorem xe_and {ma mb : Option Bool} {es : List Expr} (ha : XE X Γ B ρ a ma) (hb : XE X Γ B ρ (.BoolOp .And (b :: es) pos) mb) : XE X Γ B ρ (.BoolOp .And (a :: b :: es) pos) (andM ma mb) := imE (pe_and ha hb) fun σ H Q ⟨G, z, A, e, q⟩ => by
  cases ma with
  | none => cases e
  | some x =>
    refine ⟨G, x, A, rfl, fun v G1 H1 g1 r1 => ⟨x, rep1 r1, ?_⟩⟩
    cases x with
    | true => exact ⟨G1, z, A.grow g1, e, fun v G' H' g r => q v G' H' (g1.trans g) r⟩
    | false =>
      cases e
      exact q _ G1 H1 g1 rfl
theorem xe_chain {op op' : CmpOp} {p p' : Int → Int → Bool} {c : Expr} {ma mb mc : Option Int} (ho : OpR X (compareOp op) (rI0 fun i j => .bl (p i j))) (ho' : OpR X (compareOp op') (rI0 fun i j => .bl (p' i j))) (ha : XE X Γ B ρ a ma) (hb : XE X Γ B ρ b mb) (hc : XE X Γ B ρ c mc)
    (h1 : lastMarks [op, op'] [b, c] = false := by rfl) : XE X Γ B ρ (.Compare a [op, op'] [b, c] pos) (ma.bind fun x => mb.bind fun y => if p x y = true then mc.bind fun z => some (p' y z) else some false) := imE (pe_chain ho ho' ha hb hc h1) fun σ H Q ⟨G, z, A, e, q⟩ => by
  cases ma with
  | none => cases e
  | some x =>
    cases mb with
    | none => cases e
    | some y =>
      refine ⟨G, x, A, rfl, fun v1 G1 H1 g1 r1 => ⟨G1, y, A.grow g1, rfl, fun v2 G2 H2 g2 r2 => ⟨x, y, rep1 r1, rep1 r2, p x y, rfl, ?_⟩⟩⟩
      have e : (if p x y = true then mc.bind (fun z => some (p' y z)) else some false) = some z := e
      cases hp : p x y with
      | true =>
        rw [hp, if_pos rfl] at e
        rw [if_pos rfl]
        cases mc with
        | none => cases e
        | some w =>
          cases e
          exact ⟨G2, w, A.grow (g1.trans g2), rfl, fun v3 G3 H3 g3 r3 => ⟨y, w, rep1 r2, rep1 r3, q _ G3 H3 ((g1.trans g2).trans g3) rfl⟩⟩
      | false =>
        rw [hp, if_neg Bool.false_ne_true] at e
        rw [if_neg Bool.false_ne_true]
        cases e
        exact q _ G2 H2 (g1.trans g2) rfl
theorem xp_seq {m1 : Option S1} {sto1 : S1 → Sto} {m2 : S1 → Option S2} {sto2 : S2 → Sto} (h1 : XP1 X Γ B ρ st m1 sto1) (h2 : ∀ s, XP X Γ B (sto1 s) rest (m2 s) sto2) : XP X Γ B ρ (st :: rest) (m1.bind m2) sto2 := imB (pss_cons h1 (allB h2)) fun D σ H ⟨G, s, A, e, q⟩ => by
  cases m1 with
  | none => cases e
  | some s1 => exact ⟨G, s1, A, rfl, fun G' H' σ' A' => ⟨s1, G', s, A', e, q⟩⟩
theorem xb_pseq {m1 : Option S1} {sto1 : S1 → Sto} {m2 : S1 → Option (Fl S2 L β C)} {sto2 : S2 → Sto} (h1 : XP1 X Γ B ρ st m1 sto1) (h2 : ∀ s, XB X Γ B F (sto1 s) rest (m2 s) sto2) : XB X Γ B F ρ (st :: rest) (m1.bind m2) sto2 := imB (pss_cons h1 (allB h2)) fun D σ H ⟨G, s, A, e, q⟩ => by
  cases m1 with
  | none => cases e
  | some s1 => exact ⟨G, s1, A, rfl, fun G' H' σ' A' => ⟨s1, G', s, A', e, by cases s <;> exact q⟩⟩
def flb {S1 S2 L β C : Type} (m1 : Option (Fl S1 L β C)) (m2 : S1 → Option (Fl S2 L β C)) : Option (Fl S2 L β C) := m1.bind fun r => match r with
  | .nx s => m2 s
  | .bk l => some (.bk l)
  | .ct l => some (.ct l)
  | .ret b c => some (.ret b c)
  | .err e c => some (.err e c)
theorem xb_seq {m1 : Option (Fl S1 L β C)} {sto1 : S1 → Sto} {m2 : S1 → Option (Fl S2 L β C)} {sto2 : S2 → Sto} (h1 : XB1 X Γ B F ρ st m1 sto1) (h2 : ∀ s, XB X Γ B F (sto1 s) rest (m2 s) sto2) : XB X Γ B F ρ (st :: rest) (flb m1 m2) sto2 := imB (pss_cons h1 (allB h2)) fun D σ H ⟨G, s, A, e, q⟩ => by
  cases m1 with
  | none => cases e
  | some r =>
    refine ⟨G, r, A, rfl, ?_⟩
    cases r with
    | nx s1 => exact fun G' H' σ' A' => ⟨s1, G', s, A', e, by cases s <;> exact q⟩
    | bk l => cases e; exact q
    | ct l => cases e; exact q
    | ret b c => cases e; exact q
    | err b c => cases e; exact q
theorem xb_one {m : Option (Fl S L β C)} (h : XB1 X Γ B F ρ st m sto) : XB X Γ B F ρ [st] m sto := pss_one h
theorem xb_of (h : XP X Γ B ρ sts m sto) : XB X Γ B F ρ sts (m.bind fun s => some (.nx s)) sto := imB h fun D σ H ⟨G, s, A, e, q⟩ => by
  cases m with
  | none => cases e
  | some s1 =>
    cases e
    exact ⟨G, s1, A, rfl, q⟩
theorem xb_pre {m : Option (Fl S L β C)} (ops : List (Nat × Bool)) (h : XB X Γ B F ρ' sts m sto) (e : Sim.wks ρ ops = ρ') : XB X Γ B F ρ sts m sto := imB (lkB h) fun D σ H ⟨G, s, A, e1, q⟩ => (A.wks ops).mono fun H' ⟨G', l, A'⟩ => ⟨G', s, e ▸ A', e1, q⟩
theorem xp1_pre (ops : List (Nat × Bool)) (h : XP1 X Γ B ρ' st m sto) (e : Sim.wks ρ ops = ρ') : XP1 X Γ B ρ st m sto := imS (lkS h) fun D σ H ⟨G, s, A, e1, q⟩ => (A.wks ops).mono fun H' ⟨G', l, A'⟩ => ⟨G', s, e ▸ A', e1, q⟩
theorem xb1_pre {m : Option (Fl S L β C)} (ops : List (Nat × Bool)) (h : XB1 X Γ B F ρ' st m sto) (e : Sim.wks ρ ops = ρ') : XB1 X Γ B F ρ st m sto := imS (lkS h) fun D σ H ⟨G, s, A, e1, q⟩ => (A.wks ops).mono fun H' ⟨G', l, A'⟩ => ⟨G', s, e ▸ A', e1, q⟩
theorem xp_set (d : Dok X Γ B N sc k fx W M) {α : Type} [I : Rp α] {m : Option α} {x : Str} (i : Nat) {p' : Pos} (he : XE X Γ B ρ e m) (hi : N[i]? = some x) (hx : Loc sc x) (hρ : Nat.ble (i + 1) ρ.length = true := by rfl) (hf : fx.contains i = false := by rfl) (hs : swapsWith e (some (.Name x p')) pos.line X.env = pure false := by rfl) :
    XP1 X Γ B ρ (.Assign [.Name x p'] e pos) m (fun z => ρ.set i (vl z)) := imS (ps_set (i := i) (by rw [d.hN]; exact d.nd) (by rw [d.hN]; exact hi) (by rw [d.hsc]; exact hx) he hs (.inl (d.hfn x))) fun D σ H ⟨G, s, A, e, q⟩ =>
  ⟨G, s, A, e, fun v G' H' g r => q G' H' _ ((A.grow g).setV (Nat.le_of_ble_eq_true hρ) r fun hm => by rw [d.hfx] at hm; rw [List.contains_iff_mem.mpr hm] at hf; cases hf)⟩
theorem xb_ret {m : Option β} {c : C} (he : XE X Γ B ρ e m) (hc : F.str c = ρ') (ops : List (Nat × Bool)) (hw : Sim.wks ρ ops = ρ') (hfr : F.fr = false) (how : F.ow = none := by rfl) : XB1 X Γ B F ρ (.Return (some e) pos) (S := S) (m.bind fun b => some (.ret b c)) sto := imS (lkS' (ps_ret he)) fun D σ H ⟨G, s, A, e, q⟩ => by
  cases m with
  | none => cases e
  | some b =>
    cases e
    exact ⟨G, b, A, rfl, fun v G' H' g r => ((A.grow g).wks ops).mono fun H2 ⟨G2, l2, A2⟩ => q v G2 H2 σ (by rw [hc, ← hw]; exact A2) (Rp.mono l2 r) (fun z => by rw [hfr] at z; cases z) (fun P h => by rw [how] at h; cases h)⟩
theorem xp_if {c : Expr} {mc : Option Bool} {m1 m2 : Option S} (hc : XT X Γ B ρ c mc) (h1 : XP X Γ B ρ sts m1 sto) (h2 : XP X Γ B ρ rest m2 sto) : XP1 X Γ B ρ (.If c sts rest pos) (mc.bind fun t => if t = true then m1 else m2) sto := imS (ps_if hc h1 h2) fun D σ H ⟨G, s, A, e, q⟩ => by
  cases mc with
  | none => cases e
  | some x =>
    refine ⟨G, x, A, rfl, fun G1 H1 g1 => ?_⟩
    cases x with
    | true => exact ⟨G1, s, A.grow g1, e, q⟩
    | false => exact ⟨G1, s, A.grow g1, e, q⟩
theorem xb_if {c : Expr} {mc : Option Bool} {m1 m2 : Option (Fl S L β C)} (hc : XT X Γ B ρ c mc) (h1 : XB X Γ B F ρ sts m1 sto) (h2 : XB X Γ B F ρ rest m2 sto) : XB1 X Γ B F ρ (.If c sts rest pos) (mc.bind fun t => if t = true then m1 else m2) sto := imS (ps_if hc h1 h2) fun D σ H ⟨G, s, A, e, q⟩ => by
  cases mc with
  | none => cases e
  | some x =>
    refine ⟨G, x, A, rfl, fun G1 H1 g1 => ?_⟩
    cases x with
    | true => exact ⟨G1, s, A.grow g1, e, by cases s <;> exact q⟩
    | false => exact ⟨G1, s, A.grow g1, e, by cases s <;> exact q⟩
end
end Sim
namespace Sim
open PySem L2
open Rp (rep)
open At1 (toV)
open K1 (key)
open KT (keys)
open Ow (own)
open RpA (repA)
def WalkR (Γ : Gm) (G : Hp) (J : It) {α : Type} [Rp α] (xs : List α) : Prop := ∃ Y, Walk J xs.length (fun H => ∃ G1, Le G G1 ∧ Sub G1 H) Y ∧
  ∀ i H v H1, i < xs.length → Y i H v H1 → ∀ G1, Le G G1 → Sub G1 H → ∃ x G2, xs[i]? = some x ∧ Grow G1 H G2 H1 ∧ rep Γ G2 v x
def cI (Γ : Gm) (B : Bs) (ρ : Sto) {α : Type} [Rp α] (m : Option (List α)) : TI := fun σ H R => ∃ G xs, At Γ B ρ G H σ ∧ m = some xs ∧ ∀ J G' H', Grow G H G' H' → WalkR Γ G' J xs → R J H'
abbrev XI (X : Cx) (Γ : Gm) (B : Bs) (ρ : Sto) (tg e : Expr) {α : Type} [Rp α] (m : Option (List α)) : Prop := PI X tg e (cI Γ B ρ m)
def cG (Γ : Gm) (B : Bs) {S α : Type} [Rp α] (ρ : S → Sto) (ρt : S → α → Sto) : TG := fun v σ H Q => ∃ s a G, At Γ B (ρ s) G H σ ∧ rep Γ G v a ∧ ∀ G' H' σ', Le G G' → At Γ B (ρt s a) G' H' σ' → Q σ' H'
abbrev XG (X : Cx) (Γ : Gm) (B : Bs) (tg : Expr) {S α : Type} [Rp α] (ρ : S → Sto) (ρt : S → α → Sto) : Prop := PG X tg (cG Γ B ρ ρt)
theorem imI {X : Cx} {tg e : Expr} {t t' : TI} (h : PI X tg e t) (k : ∀ σ H R, t' σ H R → t σ H R) : PI X tg e t' := ⟨fun pins s σ H R I q => h.run pins s σ H R I (k σ H R q)⟩
theorem imG {X : Cx} {tg : Expr} {t t' : TG} (h : PG X tg t) (k : ∀ v σ H Q, t' v σ H Q → t v σ H Q) : PG X tg t' := ⟨fun pins s σ H v u Q I r q => h.run pins s σ H v u Q I r (k v σ H Q q)⟩
def flNext {S L β C : Type} (k : S → Option (Fl S L β C)) : Fl S S β C → Option (Fl S L β C)
  | .nx s' => k s'
  | .ct s' => k s'
  | .bk s' => some (.nx s')
  | .ret b c => some (.ret b c)
  | .err e c => some (.err e c)
def forF {S α L β C : Type} (f : S → α → Option (Fl S S β C)) : S → List α → Option (Fl S L β C)
  | s, [] => some (.nx s)
  | s, x :: r => (f s x).bind (flNext fun s' => forF f s' r)
def forP {S α : Type} (f : S → α → Option S) : S → List α → Option S
  | s, [] => some s
  | s, x :: r => (f s x).bind fun s' => forP f s' r
def whileF {S L β C : Type} (c : S → Option Bool) (f : S → Option (Fl S S β C)) : Nat → S → Option (Fl S L β C)
  | 0, _ => none
  | n + 1, s => (c s).bind fun t => if t = true then (f s).bind (flNext fun s' => whileF c f n s') else some (.nx s)
def whileP {S : Type} (c : S → Option Bool) (f : S → Option S) : Nat → S → Option S
  | 0, _ => none
  | n + 1, s => (c s).bind fun t => if t = true then (f s).bind fun s' => whileP c f n s' else some s
abbrev Kt.loop {L β C : Type} (F : Kt L β C) (S : Type) (sto : S → Sto) : Kt S β C := ⟨sto, sto, F.str, F.fr, F.W, F.ow⟩
abbrev Bs.up (B : Bs) (G : Hp) : Bs := { B with G := G }
theorem At.up {Γ : Gm} {B : Bs} {ρ ρ' : Sto} {G H G' H' : Hp} {σ σ' : St} (A0 : At Γ B ρ G H σ) (A : At Γ B ρ' G' H' σ') (l : Le G G') : At Γ (B.up G) ρ' G' H' σ' :=
  ⟨A.sub, l, A.keep, A.live, fun a hm hb hg => A.thin a hm hb (by
    cases q : B.G a with
    | none => rfl
    | some o => exact absurd ((A0.le a o q).symm.trans hg) (by simp)), A.slots, A.fix⟩
theorem At.down {Γ : Gm} {B : Bs} {ρ ρ' : Sto} {G H G' H' : Hp} {σ σ' : St} (A0 : At Γ B ρ G H σ) (A : At Γ (B.up G) ρ' G' H' σ') : At Γ B ρ' G' H' σ' :=
  ⟨A.sub, A0.le.trans A.le, A.keep, A.live, fun a hm hb hg => (A0.thin a hm hb hg).trans (A.thin a hm hb), A.slots, A.fix⟩
section
variable {X : Cx} {Γ : Gm} {B : Bs} {L β C : Type} [Rp β] {F : Kt L β C} {ρ ρ' : Sto} {N : List Str} {sc : Scope} {k : Nat} {fx : List Nat} {W : WX} {M : List Addr} {pos : Pos} {e a b tg it : Expr} {st : Stmt} {sts rest body : List Stmt} {S S1 S2 : Type} {m : Option S} {sto : S → Sto}
variable {α : Type} [Rp α]
theorem xg_name (d : Dok X Γ B N sc k fx W M) {ρ : S → Sto} {x : Str} (i : Nat) (hi : N[i]? = some x) (hx : Loc sc x) (hρ : ∀ s, Nat.ble (i + 1) (ρ s).length = true := by intro _; rfl) (hf : fx.contains i = false := by rfl) : XG X Γ B (.Name x pos) ρ (fun s (a : α) => (ρ s).set i (vl a)) :=
  imG (pg_name (i := i) (by rw [d.hN]; exact d.nd) (by rw [d.hN]; exact hi) (by rw [d.hsc]; exact hx) (.inl (d.hfn x))) fun v σ H Q ⟨s, a, G, A, r, q⟩ => q G H _ (.refl _) (A.setV (Nat.le_of_ble_eq_true (hρ s)) r fun hm => by
    rw [d.hfx] at hm
    rw [List.contains_iff_mem.mpr hm] at hf
    cases hf)
theorem xb_for (d : Dok X Γ B N sc k fx W M) {mxs : Option (List α)} {ρt : S → α → Sto} {f : S → α → Option (Fl S S β C)} (s0 : S) (hi : XI X Γ B (sto s0) tg it mxs) (hg : ∀ B', Dok X Γ B' N sc k fx W M → XG X Γ B' tg sto ρt)
    (hb : ∀ B', Dok X Γ B' N sc k fx W M → ∀ s a, XB X Γ B' (F.loop S sto) (ρt s a) body (f s a) sto) (hs : ∀ x, foldedSetIterable it X.env x = pure x := by intro _; rfl) : XB1 X Γ B F (sto s0) (.For tg it body [] pos) (mxs.bind fun xs => forF f s0 xs) sto := by
  -- the base grows at the loop's start: the loop's rule is taken for each base
  have up : ∀ G, Dok X Γ (B.up G) N sc k fx W M := fun G => ⟨d.toCok, d.own, d.hfn, d.tk, d.hfx, d.hM, d.stk, d.frm⟩
  refine imS (ps_for (g := fun v σ H Q => ∃ G, cG Γ (B.up G) sto ρt v σ H Q) (tb := fun D σ H => ∃ p : Hp × S × α, cS Γ (B.up p.1) (F.loop S sto) (ρt p.2.1 p.2.2) (f p.2.1 p.2.2) sto D σ H) d.own d.calm hi ⟨fun pins s σ H v u Q I r ⟨G, q⟩ => (hg (B.up G) (up G)).run pins s σ H v u Q I r q⟩ (allB fun p => hb (B.up p.1) (up p.1) p.2.1 p.2.2) hs) fun D σ H ⟨G, r, A, e, q⟩ => ?_
  cases mxs with
  | none => cases e
  | some xs =>
    refine ⟨G, xs, A, rfl, fun J G' H' g ⟨Y, hw, hy⟩ => ?_⟩
    have A' := A.grow g
    refine for_it (g := fun v σ H Q => ∃ G, cG Γ (B.up G) sto ρt v σ H Q) (tb := fun D σ H => ∃ p : Hp × S × α, cS Γ (B.up p.1) (F.loop S sto) (ρt p.2.1 p.2.2) (f p.2.1 p.2.2) sto D σ H) (D := D) hw (fun i σ H => ∃ s G1, At Γ B (sto s) G1 H σ ∧ Le G' G1 ∧ (forF f s (xs.drop i) : Option (Fl S L β C)) = some r) ⟨s0, G', A', .refl _, e⟩ (fun i σ H _ ⟨s, G1, A1, l1, _⟩ => ⟨G1, l1, A1.sub⟩) ?_ ?_
    · rintro i v σ1 H1 H2 hi ⟨s, G1, A1, l1, e1⟩ y
      obtain ⟨x, G2, hx, g2, r2⟩ := hy i H1 v H2 hi y G1 l1 A1.sub
      have A2 := A1.grow g2
      refine ⟨G', s, x, G2, A'.up A2 (l1.trans g2.leG), r2, fun G3 H3 σ3 l3 A3 => ?_⟩
      have ed : xs.drop i = x :: xs.drop (i + 1) := by
        obtain ⟨h1, h2⟩ := List.getElem?_eq_some_iff.mp hx
        rw [List.drop_eq_getElem_cons h1, h2]
      rw [ed] at e1
      refine ⟨⟨G', s, x⟩, ?_⟩
      have e1 : ((f s x).bind (flNext fun s' => forF f s' (xs.drop (i + 1)))) = some r := e1
      cases hf : f s x with
      | none => rw [hf] at e1; cases e1
      | some o =>
        rw [hf] at e1
        refine ⟨G3, o, A3, by first | exact hf | rfl, ?_⟩
        cases o with
        | nx s' => exact fun G4 H4 σ4 A4 => ⟨s', G4, A'.down A4, A4.le, e1⟩
        | ct s' => exact fun G4 H4 σ4 A4 => ⟨s', G4, A'.down A4, A4.le, e1⟩
        | bk s' =>
          have e1 := Option.some.inj e1
          subst e1
          exact fun G4 H4 σ4 A4 => q G4 H4 σ4 (A'.down A4)
        | ret b c =>
          have e1 := Option.some.inj e1
          subst e1
          exact fun v G4 H4 σ4 A4 => q v G4 H4 σ4 (A'.down A4)
        | err e c =>
          have e1 := Option.some.inj e1
          subst e1
          exact fun cls d G4 H4 σ4 A4 => q cls d G4 H4 σ4 (A'.down A4)
    · rintro σ1 H1 ⟨s, G1, A1, l1, e1⟩
      rw [List.drop_length] at e1
      have e1 := Option.some.inj e1
      subst e1
      exact q G1 H1 σ1 A1
theorem xp_for (d : Dok X Γ B N sc k fx W M) {mxs : Option (List α)} {ρt : S → α → Sto} {f : S → α → Option S} (s0 : S) (hi : XI X Γ B (sto s0) tg it mxs) (hg : ∀ B', Dok X Γ B' N sc k fx W M → XG X Γ B' tg sto ρt)
    (hb : ∀ B', Dok X Γ B' N sc k fx W M → ∀ s a, XP X Γ B' (ρt s a) body (f s a) sto) (hs : ∀ x, foldedSetIterable it X.env x = pure x := by intro _; rfl) : XP1 X Γ B (sto s0) (.For tg it body [] pos) (mxs.bind fun xs => forP f s0 xs) sto := by
  have up : ∀ G, Dok X Γ (B.up G) N sc k fx W M := fun G => ⟨d.toCok, d.own, d.hfn, d.tk, d.hfx, d.hM, d.stk, d.frm⟩
  refine imS (ps_for (g := fun v σ H Q => ∃ G, cG Γ (B.up G) sto ρt v σ H Q) (tb := fun D σ H => ∃ p : Hp × S × α, cP Γ (B.up p.1) (ρt p.2.1 p.2.2) (f p.2.1 p.2.2) sto D σ H) d.own d.calm hi ⟨fun pins s σ H v u Q I r ⟨G, q⟩ => (hg (B.up G) (up G)).run pins s σ H v u Q I r q⟩ (allB fun p => hb (B.up p.1) (up p.1) p.2.1 p.2.2) hs) fun D σ H ⟨G, r, A, e, q⟩ => ?_
  cases mxs with
  | none => cases e
  | some xs =>
    refine ⟨G, xs, A, rfl, fun J G' H' g ⟨Y, hw, hy⟩ => ?_⟩
    have A' := A.grow g
    refine for_it (g := fun v σ H Q => ∃ G, cG Γ (B.up G) sto ρt v σ H Q) (tb := fun D σ H => ∃ p : Hp × S × α, cP Γ (B.up p.1) (ρt p.2.1 p.2.2) (f p.2.1 p.2.2) sto D σ H) (D := D) hw (fun i σ H => ∃ s G1, At Γ B (sto s) G1 H σ ∧ Le G' G1 ∧ forP f s (xs.drop i) = some r) ⟨s0, G', A', .refl _, e⟩ (fun i σ H _ ⟨s, G1, A1, l1, _⟩ => ⟨G1, l1, A1.sub⟩) ?_ ?_
    · rintro i v σ1 H1 H2 hi ⟨s, G1, A1, l1, e1⟩ y
      obtain ⟨x, G2, hx, g2, r2⟩ := hy i H1 v H2 hi y G1 l1 A1.sub
      have A2 := A1.grow g2
      refine ⟨G', s, x, G2, A'.up A2 (l1.trans g2.leG), r2, fun G3 H3 σ3 l3 A3 => ?_⟩
      have ed : xs.drop i = x :: xs.drop (i + 1) := by
        obtain ⟨h1, h2⟩ := List.getElem?_eq_some_iff.mp hx
        rw [List.drop_eq_getElem_cons h1, h2]
      rw [ed] at e1
      have e1 : ((f s x).bind fun s' => forP f s' (xs.drop (i + 1))) = some r := e1
      cases hf : f s x with
      | none => rw [hf] at e1; cases e1
      | some s' =>
        rw [hf] at e1
        exact ⟨⟨G', s, x⟩, G3, s', A3, by first | exact hf | rfl, fun G4 H4 σ4 A4 => ⟨s', G4, A'.down A4, A4.le, e1⟩⟩
    · rintro σ1 H1 ⟨s, G1, A1, l1, e1⟩
      rw [List.drop_length] at e1
      have e1 := Option.some.inj e1
      subst e1
      exact q G1 H1 σ1 A1
theorem xi_list {m : Option (List α)} (h : XE X Γ B ρ e m) : XI X Γ B ρ tg e m := imI (pi_list h) fun σ H R ⟨G, xs, A, e, q⟩ => ⟨G, xs, A, e, fun v G' H' g ⟨p, vs, h1, h2, h3⟩ => by
  subst h1
  have hK : ∀ {G1 : Hp} {H1 : Hp}, Le G' G1 → Sub G1 H1 → SqL X.K H1 p vs := fun l s => SqL.of (s.lst (l _ _ h2))
  refine ⟨p, rfl, ⟨vs, hK (.refl _) g.sub⟩, q _ G' H' g ⟨YAt vs, ?_, fun i H v H1 hi ⟨y1, y2⟩ G1 l1 s1 => ?_⟩⟩
  · rw [← h3.length]
    exact (walk_list (K := X.K) (a := p) (xs := vs)).mono (fun H ⟨G1, l1, s1⟩ => hK l1 s1) fun i H x H' _ _ y => y
  · subst y1
    obtain ⟨x, hx, r⟩ := h3.getV y2
    exact ⟨x, G1, hx, .refl s1, Rp.mono l1 r⟩⟩
theorem xi_tup {m : Option (TL α)} (h : XE X Γ B ρ e m) : XI X Γ B ρ tg e (m.bind fun t => some t.l) := imI (pi_tup h) fun σ H R ⟨G, xs, A, e, q⟩ => by
  cases m with
  | none => cases e
  | some t =>
    cases e
    refine ⟨G, t, A, rfl, fun v G' H' g ⟨p, vs, h1, h2, h3⟩ => ?_⟩
    subst h1
    have hK : ∀ {G1 : Hp} {H1 : Hp}, Le G' G1 → Sub G1 H1 → SqT X.K H1 p vs := fun l s => SqT.of (s.tup (l _ _ h2))
    refine ⟨p, rfl, ⟨vs, hK (.refl _) g.sub⟩, q _ G' H' g ⟨YAt vs, ?_, fun i H v H1 hi ⟨y1, y2⟩ G1 l1 s1 => ?_⟩⟩
    · rw [← h3.length]
      exact (walk_tup (K := X.K) (a := p) (xs := vs)).mono (fun H ⟨G1, l1, s1⟩ => hK l1 s1) fun i H x H' _ _ y => y
    · subst y1
      obtain ⟨x, hx, r⟩ := h3.getV y2
      exact ⟨x, G1, hx, .refl s1, Rp.mono l1 r⟩
def rangeL (lo hi : Int) : List Int := (List.range (hi - lo).toNat).map fun (i : Nat) => lo + (i : Int)
@[irreducible] def prange (lo hi : Int) : Option (List Int) := if lo.natAbs < 2 ^ 62 ∧ hi.natAbs < 2 ^ 62 then some (rangeL lo hi) else none
theorem pr_b {lo hi : Int} (h : lo.natAbs < 2 ^ 62 ∧ hi.natAbs < 2 ^ 62) : -(2 ^ 62) ≤ lo ∧ lo < 2 ^ 62 ∧ -(2 ^ 62) ≤ hi ∧ hi < 2 ^ 62 := by omega
theorem rangeL_length (lo hi : Int) : (rangeL lo hi).length = (hi - lo).toNat := by simp [rangeL]
theorem walkR_range {G : Hp} (lo hi : Int) : WalkR Γ G (Itr lo (hi - lo).toNat) (rangeL lo hi) := by
  refine ⟨YFn fun i => .int (lo + i), by rw [rangeL_length]; exact walk_range.mono (fun _ _ => trivial) fun i H x H' _ _ y => y, fun i H v H1 hi' ⟨y1, y2⟩ G1 l1 s1 => ?_⟩
  subst y1
  refine ⟨lo + (i : Int), G1, ?_, .refl s1, y2⟩
  rw [rangeL_length] at hi'
  simp [rangeL, hi']
theorem xi_range2 (c : Cok X Γ N sc k) {p : Pos} {ma mb : Option Int} (ha : XE X Γ B ρ a ma) (hb : XE X Γ B ρ b mb) (hg : Glb sc "range") (hm : Γ.mg "range" = none) (s1 : starEach [a, b] X.env = [(false, eval a X.env), (false, eval b X.env)] := by rfl) (s2 : starEach [b] X.env = [(false, eval b X.env)] := by rfl) :
    XI X Γ B ρ tg (.Call (.Name "range" p) [a, b] [] pos) (b2 ma mb prange) := imI (pi_range2 (c.gl hg) (by rw [c.hmg]; exact hm) (pa_cons ha (pa_cons hb pa_nil (by rw [s2]; rfl)) (by rw [s1, s2])) s1 s2) fun σ H R ⟨G, xs, A, e, q⟩ => by
  cases ma with
  | none => cases e
  | some x =>
    cases mb with
    | none => cases e
    | some y =>
      obtain ⟨hb, e⟩ := ite_some (by have qq : prange x y = some xs := e; unfold prange at qq; exact qq)
      have hb := pr_b hb
      refine ⟨G, x, A, rfl, fun v1 G1 H1 g1 r1 => ⟨G1, y, A.grow g1, rfl, fun v2 G2 H2 g2 r2 => ⟨x, y, by rw [rep1 r1, rep1 r2]; rfl, hb, ?_⟩⟩⟩
      subst e
      exact q _ G2 H2 (g1.trans g2) (walkR_range x y)
theorem xi_range1 (c : Cok X Γ N sc k) {p : Pos} {ma : Option Int} (ha : XE X Γ B ρ a ma) (hg : Glb sc "range") (hm : Γ.mg "range" = none) (s1 : starEach [a] X.env = [(false, eval a X.env)] := by rfl) :
    XI X Γ B ρ tg (.Call (.Name "range" p) [a] [] pos) (ma.bind fun y => prange 0 y) := imI (pi_range1 (c.gl hg) (by rw [c.hmg]; exact hm) (pa_cons ha pa_nil (by rw [s1]; rfl)) s1) fun σ H R ⟨G, xs, A, e, q⟩ => by
  cases ma with
  | none => cases e
  | some y =>
    obtain ⟨hb, e⟩ := ite_some (by have qq : prange 0 y = some xs := e; unfold prange at qq; exact qq)
    have hb := pr_b hb
    refine ⟨G, y, A, rfl, fun v1 G1 H1 g1 r1 => ⟨y, by rw [rep1 r1]; rfl, hb.2.2.1, hb.2.2.2, ?_⟩⟩
    subst e
    have w := walkR_range (Γ := Γ) (G := G1) 0 y
    rw [Int.sub_zero] at w
    exact q _ G1 H1 g1 w
end
end Sim
namespace Sim
open PySem L2
open Rp (rep)
open At1 (toV)
open K1 (key)
open KT (keys)
open Ow (own)
open RpA (repA stoA)
def specP (Γ : Gm) (fr : Bool) {τ β : Type} [RpA τ] [Rp β] (f : τ → Option β) : Sp := fun vs H Q _ => ∃ G t b, Sub G H ∧ repA Γ G vs t ∧ f t = some b ∧ ∀ v G' H', Grow G H G' H' → rep Γ G' v b → (fr = true → Fresh H v) → Q v H'
def specE (Γ : Gm) (fr : Bool) {τ β : Type} [RpA τ] [Rp β] (f : τ → Option (Except Er β)) : Sp := fun vs H Q E => ∃ G t b, Sub G H ∧ repA Γ G vs t ∧ f t = some b ∧ match b with
  | .ok b => ∀ v G' H', Grow G H G' H' → rep Γ G' v b → (fr = true → Fresh H v) → Q v H'
  | .error e => ∀ cls d G' H', Grow G H G' H' → IsEr Γ e cls d H' → E cls d H'
structure Cal (Γ : Gm) (x : Str) (k : Nat) (fr : Bool) {τ β : Type} [RpA τ] [Rp β] (f : τ → Option β) : Prop where
  ex : ∃ a fd ps, FnOk Γ.P Γ.w Γ.K Γ.mg Γ.base CX0 k a fd ps (specP Γ fr f) ∧ Γ.mg x = some (.ref a) ∧ PySem.W.keepIn Γ.K (.ref a) = true ∧ Binds Γ.K fd ps []
structure CalE (Γ : Gm) (x : Str) (k : Nat) (fr : Bool) {τ β : Type} [RpA τ] [Rp β] (f : τ → Option (Except Er β)) : Prop where
  ex : ∃ a fd ps, FnOk Γ.P Γ.w Γ.K Γ.mg Γ.base (L2N.CX Γ.P Γ.w) k a fd ps (specE Γ fr f) ∧ Γ.mg x = some (.ref a) ∧ PySem.W.keepIn Γ.K (.ref a) = true ∧ Binds Γ.K fd ps []
structure Def (Γ : Gm) (x : Str) (st : Stmt) (ps : List Str) : Prop where
  ex : ∃ y a fd, Fun Γ.K y y st a fd ∧ Γ.mg x = some (.ref a) ∧ Binds Γ.K fd ps []
abbrev deads (n : Nat) : Sto := List.replicate n .dead
theorem get_rep {α : Type _} {n i : Nat} {a b : α} (h : (List.replicate n a)[i]? = some b) : b = a ∧ i < n := by
  obtain ⟨h1, h2⟩ := List.getElem?_eq_some_iff.mp h
  simp at h1 h2
  exact ⟨h2.symm, h1⟩
theorem at_start {Γ : Gm} {G H : Hp} {τ : Type} [RpA τ] {N : List Str} {vs : List V} {t : τ} {fx : List Nat} (s : Sub G H) (r : repA Γ G vs t) (hn : RpA.num τ ≤ N.length) :
    At Γ ⟨G, H, [], L2.start N vs, fx⟩ (stoA t ++ deads (N.length - RpA.num τ)) G H (L2.start N vs) := by
  have q := RpA.okA (H := H) r
  have hl : (stoA t).length = RpA.num τ := RpA.lenA t
  refine ⟨s, .refl _, fun _ _ _ h => h, fun _ h => h, fun _ _ _ h => .inl h, ⟨fun _ => [], ⟨by simp [L2.start, hl, q.1], fun i sl e => ?_, fun i j x h => by simp at h, fun _ _ => rfl⟩, fun i a h => by simp at h⟩, fun _ _ => rfl⟩
  unfold L2.start
  by_cases hi : i < RpA.num τ
  · rw [List.getElem?_append_left (by rw [hl]; exact hi)] at e
    obtain ⟨v, q1, q2⟩ := q.2 i sl e
    exact ⟨some v, by rw [List.getElem?_append_left (by simp [q.1, hi])]; simp [q1], q2⟩
  · rw [List.getElem?_append_right (by rw [hl]; omega)] at e
    obtain ⟨e1, e2⟩ := get_rep e
    rw [hl] at e2
    subst e1
    refine ⟨none, ?_, rfl⟩
    rw [List.getElem?_append_right (by simp [q.1]; omega)]
    simp [q.1, e2]
theorem At.deads {Γ : Gm} {B : Bs} {ρ : Sto} {G H : Hp} {σ : St} (A : At Γ B ρ G H σ) {n : Nat} (hn : ρ.length = n) : At Γ B (Sim.deads n) G H σ := by
  obtain ⟨φ, h1, h3⟩ := A.slots
  refine ⟨A.sub, A.le, A.keep, A.live, A.thin, ⟨fun _ => [], ⟨by simp [h1.len, hn], fun i s hs => ?_, fun i j x h => by simp at h, fun _ _ => rfl⟩, fun i a h => by simp at h⟩, A.fix⟩
  obtain ⟨e1, e2⟩ := get_rep hs
  have hi : i < σ.length := by rw [h1.len, hn]; exact e2
  exact ⟨σ[i], by simp [hi], by subst e1; exact rfl⟩
theorem At.len {Γ : Gm} {B : Bs} {ρ : Sto} {G H : Hp} {σ : St} (A : At Γ B ρ G H σ) : σ.length = ρ.length := by
  obtain ⟨φ, h1, _⟩ := A.slots
  exact h1.len
theorem At.grown {Γ : Gm} {G0 H0 : Hp} {σ0 : St} {fx : List Nat} {ρ : Sto} {G H : Hp} {σ : St} (A : At Γ ⟨G0, H0, [], σ0, fx⟩ ρ G H σ) : Grow G0 H0 G H :=
  ⟨A.le, fun a o e => A.keep a o (by simp) e, A.sub, fun a h1 h2 => A.thin a (by simp) h1 h2⟩
abbrev ktP (β : Type) (fr : Bool) (n : Nat) : Kt Empty β Unit := ⟨fun l => l.elim, fun l => l.elim, fun _ => deads n, fr, fun _ _ _ _ => False, none⟩
abbrev ktE (β : Type) (fr : Bool) (n : Nat) (W : WX) : Kt Empty β Unit := ⟨fun l => l.elim, fun l => l.elim, fun _ => deads n, fr, W, none⟩
def retP {S β : Type} (fin : S → β) : Fl S Empty β Unit → Option β
  | .nx s => some (fin s)
  | .ret b _ => some b
  | .bk l => l.elim
  | .ct l => l.elim
  | .err _ _ => none
def retE {S β : Type} (fin : S → β) : Fl S Empty β Unit → Option (Except Er β)
  | .nx s => some (.ok (fin s))
  | .ret b _ => some (.ok b)
  | .bk l => l.elim
  | .ct l => l.elim
  | .err e _ => some (.error e)
section
variable {Γ : Gm} {x : Str} {st : Stmt} {N ps : List Str} {k : Nat} {τ β : Type} [RpA τ] [Rp β] {fr : Bool} {S : Type} {sto : S → Sto}
theorem cal_of (D : Def Γ x st ps) (Sc : FnScope N ps (defScope st)) {m : τ → Option (Fl S Empty β Unit)} (fin : S → β) (hfin : ∀ s (G : Hp), rep Γ G .non (fin s)) (hps : RpA.num τ = ps.length)
    (hb : ∀ (X : Cx) (B : Bs) (t : τ), Dok X Γ B N (defScope st) k [] (fun _ _ _ _ => False) [] → XB X Γ B (ktP β fr N.length) (stoA t ++ deads (N.length - RpA.num τ)) (defBody st) (m t) sto) (fm : τ → Option β) (hm : ∀ t, fm t = (m t).bind (retP fin)) : Cal Γ x (k + 1) fr fm := by
  obtain ⟨_, a, fd, F, hg, bi⟩ := D.ex
  refine ⟨a, fd, ps, F.ok Sc (fun vs H Q E h => ?_) (fun cdv A outer s H vs Q E hr h => ?_), hg, F.kp, bi⟩
  · obtain ⟨G, t, b, h1, h2, _⟩ := h
    rw [(RpA.okA (H := H) h2).1, hps]
  · obtain ⟨G, t, b, h1, h2, h3, q⟩ := h
    have hN : RpA.num τ ≤ N.length := by
      rw [hps]
      have z := congrArg List.length Sc.pre
      rw [List.length_take] at z
      omega
    have A0 := at_start (fx := []) h1 h2 hN
    refine ⟨_, hb _ ⟨G, H, [], L2.start N vs, []⟩ t ⟨⟨rfl, rfl, rfl, rfl, rfl, rfl, Sc.nd, rfl, rfl, hr⟩, PassesOwn.never, fun _ => rfl, L2N.takes0, rfl, rfl, rfl, rfl⟩, ?_⟩
    rw [hm] at h3
    cases e : m t with
    | none => rw [e] at h3; cases h3
    | some r =>
      rw [e] at h3
      refine ⟨G, r, A0, by first | exact e | rfl, ?_⟩
      cases r with
      | nx s1 =>
        have h3 : some (fin s1) = some b := h3
        have h3 := Option.some.inj h3
        subst h3
        intro G' H' σ' A'
        exact q .non G' H' A'.grown (hfin s1 G') fun _ p z => by cases z
      | bk l => exact l.elim
      | ct l => exact l.elim
      | ret b' c =>
        have h3 : some b' = some b := h3
        have h3 := Option.some.inj h3
        subst h3
        intro v G' H' σ' A' r f _
        exact q v G' H' A'.grown r f
      | err e' c => cases h3
end
section
variable {X : Cx} {Γ : Gm} {B : Bs} {ρ : Sto} {N : List Str} {sc : Scope} {k j : Nat} {pos p : Pos} {e : Expr} {es : List Expr} {x : Str} {α τ β : Type} [Rp α] [RpA τ] [Rp β] {fr : Bool}
theorem xa_nil : XA X Γ B ρ [] (some ()) := imA pa_nil fun σ H Q ⟨G, z, A, e, q⟩ => q [] G H (.refl A.sub) rfl
theorem xa_cons {m : Option α} {mt : Option τ} (he : XE X Γ B ρ e m) (ht : XA X Γ B ρ es mt) (hs : starEach (e :: es) X.env = (false, eval e X.env) :: starEach es X.env := by rfl) : XA X Γ B ρ (e :: es) (b2 m mt fun a t => some (a, t)) := imA (pa_cons he ht hs) fun σ H Q ⟨G, z, A, e, q⟩ => by
  cases m with
  | none => cases e
  | some y =>
    cases mt with
    | none => cases e
    | some t =>
      cases e
      exact ⟨G, y, A, rfl, fun v G1 H1 g1 r1 => ⟨G1, t, A.grow g1, rfl, fun vs G2 H2 g2 r2 => q (v :: vs) G2 H2 (g1.trans g2) ⟨v, vs, rfl, Rp.mono g2.leG r1, r2⟩⟩⟩
theorem xe_call (c : Cok X Γ N sc k) {f : τ → Option β} {mt : Option τ} (h : Cal Γ x j fr f) (hk : j ≤ k) (hg : Glb sc x) (ha : XA X Γ B ρ (e :: es) mt) (hdb : (x == ("__debug__" : Str)) = false := by decide) (he : starEach (e :: es) X.env = (false, eval e X.env) :: starEach es X.env := by rfl) (hpl : (backTo pos (starEach es X.env)).any (·.1) = false := by rfl) :
    XE X Γ B ρ (.Call (.Name x p) (e :: es) [] pos) (mt.bind f) := by
  obtain ⟨a, fd, ps, F, hm, kp, bi⟩ := h.ex
  refine imE (pe_call (dvs := []) (CX := CX0) (E := E0) (by rw [c.hP, c.hw, c.hK, c.hmg, c.hbase]; exact F) (c.room.mono hk) (c.gl hg) (by rw [c.hmg]; exact hm) (by rw [c.hK]; exact kp) (by rw [c.hK]; exact bi) .nil pass0 ha hdb he hpl) fun σ H Q ⟨G, z, A, e, q⟩ => ?_
  cases mt with
  | none => cases e
  | some t =>
    refine ⟨G, t, A, rfl, fun vs G1 H1 g1 r1 => ?_⟩
    show specP Γ fr f (vs ++ []) H1 Q E0
    rw [List.append_nil]
    exact ⟨G1, t, z, g1.sub, r1, e, fun v G2 H2 g2 r2 _ => q v G2 H2 (g1.trans g2) r2⟩
def okOf {β : Type} : Except Er β → Option β
  | .ok b => some b
  | .error _ => none
end
end Sim
namespace Sim
open PySem L2
open Rp (rep)
open At1 (toV)
open K1 (key)
open KT (keys)
open Ow (own)
open RpA (repA stoA)
def cN (Γ : Gm) (B : Bs) (ρ : Sto) {α : Type} [Rp α] (m : Option (List α)) : TE := fun σ H Q => ∃ G xs, At Γ B ρ G H σ ∧ m = some xs ∧ ∀ p vs G1 H1, Grow G H G1 H1 → H1 p = none → RpL Γ G1 vs xs → Q (.ref p) (upd H1 p (.lst vs))
abbrev XN (X : Cx) (Γ : Gm) (B : Bs) (ρ : Sto) (e : Expr) {α : Type} [Rp α] (m : Option (List α)) : Prop := PE X e (cN Γ B ρ m)
def BIG : Nat := 1000000
theorem big_le {n : Nat} (h : n ≤ BIG) : n ≤ sizeLine := Nat.le_trans h (by decide)
theorem big_lt {n : Nat} (h : n ≤ BIG) : n < sizeLine := Nat.lt_of_le_of_lt h (by decide)
section
variable {X : Cx} {Γ : Gm} {B : Bs} {ρ ρ' : Sto} {N : List Str} {sc : Scope} {k : Nat} {fx : List Nat} {W : WX} {M : List Addr} {pos p p' : Pos} {e a b o : Expr} {es : List Expr} {S : Type} {sto : S → Sto}
variable {α β : Type} [Rp α] [Rp β]
theorem xe_ofN {m : Option (List α)} (h : XN X Γ B ρ e m) : XE X Γ B ρ e m := imE h fun σ H Q ⟨G, xs, A, e, q⟩ => ⟨G, xs, A, e, fun p vs G1 H1 g hp r => by
  have g2 := Grow.new g.sub hp (.lst vs)
  exact q _ _ _ (g.trans g2) ⟨p, vs, rfl, upd_same, r.mono g2.leG⟩⟩
theorem xr_ofN {m : Option (List α)} (h : XN X Γ B ρ e m) : XR X Γ B ρ e m := xr_of (xe_ofN h)
theorem xp_setN (d : Dok X Γ B N sc k fx W M) {m : Option (List α)} {x : Str} (i : Nat) (he : XN X Γ B ρ e m) (hi : N[i]? = some x) (hx : Loc sc x) (hρ : Nat.ble (i + 1) ρ.length = true := by rfl) (hf : fx.contains i = false := by rfl) (hs : swapsWith e (some (.Name x p')) pos.line X.env = pure false := by rfl) :
    XP1 X Γ B ρ (.Assign [.Name x p'] e pos) m (fun z => ρ.set i (ow (OL.mk z))) := imS (ps_set (i := i) (by rw [d.hN]; exact d.nd) (by rw [d.hN]; exact hi) (by rw [d.hsc]; exact hx) he hs (.inl (d.hfn x))) fun D σ H ⟨G, s, A, e, q⟩ =>
  ⟨G, s, A, e, fun p vs G1 H1 g hp r => q G1 _ _ ((A.grow g).setN (Nat.le_of_ble_eq_true hρ) hp ⟨p, vs, rfl, rfl, upd_same, r⟩ fun hm => by
    rw [d.hfx] at hm
    rw [List.contains_iff_mem.mpr hm] at hf
    cases hf)⟩
theorem seqO_length : ∀ {ms : List (Option α)} {xs : List α}, seqO ms = some xs → xs.length = ms.length
  | [], xs, h => by cases h; rfl
  | m :: r, xs, h => by
    cases m with
    | none => cases h
    | some y =>
      cases hr : seqO r with
      | none =>
        have h : (seqO r).bind (fun xs => some (y :: xs)) = some xs := h
        rw [hr] at h; cases h
      | some ys =>
        have h : (seqO r).bind (fun xs => some (y :: xs)) = some xs := h
        rw [hr] at h
        cases h
        rw [List.length_cons, List.length_cons, seqO_length hr]
theorem xl_nil : XL X Γ B ρ [] (α := α) [] := imA pa_nil fun σ H Q ⟨G, z, A, e, q⟩ => by
  cases e
  exact q [] G H (.refl A.sub) .nil
theorem xl_cons {m : Option α} {ms : List (Option α)} (he : XE X Γ B ρ e m) (ht : XL X Γ B ρ es ms) (hs : starEach (e :: es) X.env = (false, eval e X.env) :: starEach es X.env := by rfl) : XL X Γ B ρ (e :: es) (m :: ms) := imA (pa_cons he ht hs) fun σ H Q ⟨G, z, A, e, q⟩ => by
  cases m with
  | none => cases e
  | some y =>
    have e : (seqO ms).bind (fun xs => some (y :: xs)) = some z := e
    cases ht : seqO ms with
    | none => rw [ht] at e; cases e
    | some ys =>
      rw [ht] at e
      cases e
      exact ⟨G, y, A, rfl, fun v G1 H1 g1 r1 => ⟨G1, ys, A.grow g1, ht, fun vs G2 H2 g2 r2 => q (v :: vs) G2 H2 (g1.trans g2) (.cons (Rp.mono g2.leG r1) r2)⟩⟩
theorem xn_list {ms : List (Option α)} (h : XL X Γ B ρ es ms) (hl : Nat.ble ms.length 1000 = true := by rfl) : XN X Γ B ρ (.List es pos) (seqO ms) := imE (pe_lst h) fun σ H Q ⟨G, xs, A, e, q⟩ => ⟨G, xs, A, e, fun vs G' H' g r => ⟨by
  rw [r.length, seqO_length e]
  exact Nat.le_trans (Nat.le_of_ble_eq_true hl) (by decide), fun p hp => q p vs G' H' g hp r⟩⟩
theorem xe_tup2 {j : Nat} {ma : Option α} {mb : Option β} (ha : XE X Γ B ρ a ma) (hb : XE X Γ B ρ b mb) (s1 : starEach [a, b] X.env = (false, eval a X.env) :: starEach [b] X.env := by rfl) (s2 : starEach [b] X.env = (false, eval b X.env) :: starEach [] X.env := by rfl) : XE X Γ B ρ (.Tuple [a, b] j pos) (b2 ma mb fun x y => some (x, y)) :=
  imE (pe_tup (pa_cons ha (pa_cons hb pa_nil s2) s1)) fun σ H Q ⟨G, z, A, e, q⟩ => by
  cases ma with
  | none => cases e
  | some x =>
    cases mb with
    | none => cases e
    | some y =>
      cases e
      refine ⟨G, x, A, rfl, fun v1 G1 H1 g1 r1 => ⟨G1, y, A.grow g1, rfl, fun v2 G2 H2 g2 r2 => ⟨(by show 2 ≤ sizeLine; decide), fun p hp => ?_⟩⟩⟩
      have g3 := Grow.new g2.sub hp (.tup [v1, v2])
      exact q _ _ _ ((g1.trans g2).trans g3) ⟨p, v1, v2, rfl, upd_same, Rp.mono (g2.leG.trans g3.leG) r1, Rp.mono g3.leG r2⟩
theorem xe_tupL {ms : List (Option α)} {j : Nat} (h : XL X Γ B ρ es ms) (hl : Nat.ble ms.length 1000 = true := by rfl) : XE X Γ B ρ (.Tuple es j pos) ((seqO ms).bind fun xs => some (TL.mk xs)) := imE (pe_tup h) fun σ H Q ⟨G, z, A, e, q⟩ => by
  cases hs : seqO ms with
  | none => rw [hs] at e; cases e
  | some xs =>
    rw [hs] at e
    cases e
    refine ⟨G, xs, A, hs, fun vs G' H' g r => ⟨by
      rw [r.length, seqO_length hs]
      exact Nat.le_trans (Nat.le_of_ble_eq_true hl) (by decide), fun p hp => ?_⟩⟩
    have g4 := Grow.new g.sub hp (.tup vs)
    exact q _ _ _ (g.trans g4) ⟨p, vs, rfl, upd_same, RpL.mono g4.leG r⟩
theorem atI_rep {G : Hp} {vs : List V} {xs : List α} (r : RpL Γ G vs xs) {i : Int} {x : α} (h : atI xs i = some x) : ∃ v, atI vs i = some v ∧ rep Γ G v x := by
  unfold atI at h ⊢
  rw [r.length]
  cases hi : ixN xs.length i with
  | none => rw [hi] at h; cases h
  | some j =>
    rw [hi] at h
    exact r.get h
theorem xe_ix {ma : Option (List α)} {mb : Option Int} (ha : XR X Γ B ρ a ma) (hb : XE X Γ B ρ b mb) (hs : PlainIx b := by intro _ _; rfl) : XE X Γ B ρ (.Subscript a b pos) (b2 ma mb fun xs i => atI xs i) := imE (pe_ix ix_list ha hb hs) fun σ H Q ⟨G, z, A, e, q⟩ => by
  cases ma with
  | none => cases e
  | some xs =>
    cases mb with
    | none => cases e
    | some i =>
      refine ⟨G, xs, A, rfl, fun p vs G1 H1 g1 hp r1 => ⟨G1, i, A.grow g1, rfl, fun v2 G2 H2 g2 r2 => ?_⟩⟩
      obtain ⟨v, hv, r⟩ := atI_rep r1 (show atI xs i = some z from e)
      exact ⟨p, vs, i, v, rfl, rep1 r2, SqL.of (g2.leH _ _ hp), hv, q v G2 H2 (g1.trans g2) (Rp.mono g2.leG r)⟩
theorem xe_snd {m : Option (α × β)} {j : Nat} {p1 : Pos} (ha : XE X Γ B ρ a m) : XE X Γ B ρ (.Subscript a (.Constant (.int 1) j p1) pos) (m.bind fun t => some t.2) := imE (pe_ix ix_tup ha pe_int fun _ _ => rfl) fun σ H Q ⟨G, z, A, e, q⟩ => by
  cases m with
  | none => cases e
  | some t =>
    cases e
    refine ⟨G, t, A, rfl, fun v G1 H1 g1 ⟨p, x, y, h1, h2, h3, h4⟩ => ?_⟩
    exact ⟨p, [x, y], 1, y, h1, rfl, SqT.of (g1.sub.tup h2), rfl, q y G1 H1 g1 h4⟩
theorem xe_lenR (c : Cok X Γ N sc k) {m : Option (List α)} (ha : XR X Γ B ρ a m) (hg : Glb sc "len") (hm : Γ.mg "len" = none) (s1 : starEach [a] X.env = (false, eval a X.env) :: starEach [] X.env := by rfl) (hpl : (backTo pos (starEach [] X.env)).any (·.1) = false := by rfl) : XE X Γ B ρ (.Call (.Name "len" p) [a] [] pos) (m.bind fun xs => some (xs.length : Int)) :=
  imE (pe_callB call_len_seq (c.gl hg) (by rw [c.hmg]; exact hm) PySem.boot_len (pa_cons ha pa_nil s1) (he := s1)) fun σ H Q ⟨G, z, A, e, q⟩ => by
  cases m with
  | none => cases e
  | some xs =>
    cases e
    exact ⟨G, xs, A, rfl, fun p vs G1 H1 g1 hp r1 => ⟨p, vs, rfl, .inl (SqL.of hp), q _ G1 H1 g1 (by show V.int _ = V.int _; rw [r1.length])⟩⟩
@[irreducible] def pcat {α : Type} (xs ys : List α) : Option (List α) := if xs.length + ys.length ≤ BIG then some (xs ++ ys) else none
theorem xn_cat {ma mb : Option (List α)} (ha : XR X Γ B ρ a ma) (hb : XR X Γ B ρ b mb) : XN X Γ B ρ (.BinOp a .Add b pos) (b2 ma mb pcat) := imE (pe_op op_cat ha hb) fun σ H Q ⟨G, z, A, e, q⟩ => by
  cases ma with
  | none => cases e
  | some xs =>
    cases mb with
    | none => cases e
    | some ys =>
      obtain ⟨hl, e⟩ := ite_some (by have qq : pcat xs ys = some z := e; unfold pcat at qq; exact qq)
      subst e
      refine ⟨G, xs, A, rfl, fun p1 vs G1 H1 g1 h1 r1 => ⟨G1, ys, A.grow g1, rfl, fun p2 ws G2 H2 g2 h2 r2 => ?_⟩⟩
      exact ⟨p1, p2, vs, ws, rfl, rfl, g2.leH _ _ h1, h2, by rw [r1.length, r2.length]; exact big_le hl, fun p hp => q p _ G2 H2 (g1.trans g2) hp ((r1.mono g2.leG).append r2)⟩
def cut {α : Type} (xs : List α) (lo hi : Option Int) : List α := (xs.drop (HT.sIx xs.length 0 lo)).take (HT.sIx xs.length xs.length hi - HT.sIx xs.length 0 lo)
theorem cutV_rep {G : Hp} {vs : List V} {xs : List α} (r : RpL Γ G vs xs) (lo hi : Option Int) : RpL Γ G (cutV vs lo hi) (cut xs lo hi) := by
  unfold cutV cut
  rw [r.length]
  exact (r.drop _).take _
def cO (Γ : Gm) (B : Bs) (ρ : Sto) (m : Option (Option Int)) : TO := fun σ H Q => ∃ G z, At Γ B ρ G H σ ∧ m = some z ∧ ∀ G' H', Grow G H G' H' → Q z H'
abbrev XO (X : Cx) (Γ : Gm) (B : Bs) (ρ : Sto) (e : Option Expr) (m : Option (Option Int)) : Prop := PO X e (cO Γ B ρ m)
theorem xo_none : XO X Γ B ρ none (some none) := ⟨fun pins s σ H Q I ⟨G, z, A, e, q⟩ => (po_none (X := X)).run pins s σ H Q I (by cases e; exact q G H (.refl A.sub))⟩
theorem xo_some {m : Option Int} (h : XE X Γ B ρ e m) : XO X Γ B ρ (some e) (m.bind fun i => some (some i)) := ⟨fun pins s σ H Q I ⟨G, z, A, e, q⟩ => (po_some h).run pins s σ H Q I (by
  cases m with
  | none => cases e
  | some i =>
    cases e
    exact ⟨G, i, A, rfl, fun v G1 H1 g1 r1 => ⟨i, rep1 r1, q G1 H1 g1⟩⟩)⟩
theorem xn_slice {m : Option (List α)} {lo hi : Option Expr} {ml mh : Option (Option Int)} {p2 : Pos} (ha : XR X Γ B ρ a m) (hl : XO X Γ B ρ lo ml) (hh : XO X Γ B ρ hi mh) : XN X Γ B ρ (.Subscript a (.Slice lo hi none p2) pos) (m.bind fun xs => ml.bind fun l => mh.bind fun h => some (cut xs l h)) := imE (pe_slice sl_list ha hl hh) fun σ H Q ⟨G, z, A, e, q⟩ => by
  cases m with
  | none => cases e
  | some xs =>
    cases ml with
    | none => cases e
    | some l =>
      cases mh with
      | none => cases e
      | some h =>
        cases e
        exact ⟨G, xs, A, rfl, fun p vs G1 H1 g1 hp r1 => ⟨G1, l, A.grow g1, rfl, fun G2 H2 g2 => ⟨G2, h, A.grow (g1.trans g2), rfl, fun G3 H3 g3 =>
          ⟨p, vs, rfl, SqL.of (g3.leH _ _ (g2.leH _ _ hp)), fun q' hq => q q' _ G3 H3 ((g1.trans g2).trans g3) hq (RpL.mono (g2.leG.trans g3.leG) (cutV_rep r1 l h))⟩⟩⟩⟩
theorem xn_listOf (c : Cok X Γ N sc k) {m : Option (List α)} (ha : XR X Γ B ρ a m) (hg : Glb sc "list") (hm : Γ.mg "list" = none) (s1 : starEach [a] X.env = (false, eval a X.env) :: starEach [] X.env := by rfl) : XN X Γ B ρ (.Call (.Name "list" p) [a] [] pos) m :=
  imE (pe_callTy call_list_of (c.gl hg) (by rw [c.hmg]; exact hm) (by decide +kernel) (pa_cons ha pa_nil s1) (he := s1)) fun σ H Q ⟨G, xs, A, e, q⟩ =>
  ⟨G, xs, A, e, fun p vs G1 H1 g1 hp r1 => ⟨p, vs, rfl, .inl (SqL.of hp), fun l hl => q l vs G1 H1 g1 hl r1⟩⟩
class AtE (α : Type) [At1 α] [DecidableEq α] : Prop where
  eqv : ∀ a b : α, eqV (toV a) (toV b) = decide (a = b)
instance : AtE Int := ⟨fun a b => by show (a == b) = _; exact Bool.beq_eq_decide_eq a b⟩
instance : AtE Tt := ⟨fun a b => by show (a.s == b.s) = _; rw [Bool.beq_eq_decide_eq]; exact decide_eq_decide.mpr ⟨fun h => Tt.ext' h, fun h => by rw [h]⟩⟩
instance : AtE Bool := ⟨fun a b => by show (a == b) = _; exact Bool.beq_eq_decide_eq a b⟩
theorem inV_dec {α : Type} [At1 α] [DecidableEq α] [AtE α] (x : α) (xs : List α) : inV (toV x) (xs.map toV) = decide (x ∈ xs) := by
  unfold inV
  rw [List.any_map, Bool.eq_iff_iff, List.any_eq_true, decide_eq_true_iff]
  constructor
  · rintro ⟨y, hy, e⟩
    have e : eqV (toV y) (toV x) = true := e
    rw [AtE.eqv] at e
    rw [← of_decide_eq_true e]
    exact hy
  · intro h
    exact ⟨x, h, by show eqV (toV x) (toV x) = true; rw [AtE.eqv]; exact decide_eq_true rfl⟩
theorem flat_map {α : Type} [At1 α] (xs : List α) : (xs.map toV).all flatV = true := by
  rw [List.all_map, List.all_eq_true]
  intro x _
  exact At1.flat x
@[irreducible] def push {α : Type} (xs : List α) (x : α) : Option (List α) := if xs.length + 1 ≤ BIG then some (xs ++ [x]) else none
theorem xp_append (d : Dok X Γ B N sc k fx W M) {m : Option α} {x : Str} (i : Nat) {xs : List α} {apos cpos : Pos} (hi : ρ[i]? = some (ow (OL.mk xs))) (hN : N[i]? = some x) (hv : Vis sc x) (he : XE X Γ B ρ e m) (hd : (x == ("__debug__" : Str)) = false := by decide) (hcd : (x == ("__classdict__" : Str)) = false := by decide)
    (hfew : ((backTo cpos (starEach [e] X.env)).all (fun x => !x.1) && (backToKw cpos (keywordEach [] X.env)).all (fun x => x.1.isSome)
      && decide ([e].length + ([] : List Keyword).length + (if ([] : List Keyword).isEmpty then 0 else 1) < 30)) = true := by rfl)
    (hline : (apos.endLine == cpos.line) = true := by rfl) (hs : starEach [e] X.env = (false, eval e X.env) :: starEach [] X.env := by rfl) (hw : swapsWith (.Call (.Attribute (.Name x p) "append" apos) [e] [] cpos) none pos.line X.env = pure false := by rfl) :
    XP1 X Γ B ρ (.Expr (.Call (.Attribute (.Name x p) "append" apos) [e] [] cpos) pos) (m.bind fun y => push xs y) (fun ys => ρ.set i (ow (OL.mk ys))) :=
  imS (ps_expr (pe_bm PySem.F.plainAttrs_list PySem.F.slot_list_append PySem.F.type_list_append mt_append (pv_ d.toCok hN hv hd hcd) (pa_cons he pa_nil hs) (by rfl) hfew hline hs (by rfl)) hw) fun D σ H ⟨G, s, A, e, q⟩ => by
  cases m with
  | none => cases e
  | some y =>
    obtain ⟨hl, e⟩ := ite_some (by have qq : push xs y = some s := e; unfold push at qq; exact qq)
    subst e
    obtain ⟨v, fp, h1, ⟨p, vs, rfl, h3, h4, h5⟩, h6⟩ := A.getO hi
    refine ⟨.ref p, h1, .inl ⟨rfl, vs, SqL.of h4⟩, G, y, A, rfl, fun v G1 H1 g1 r1 => ⟨p, vs, v, rfl, rfl, g1.leH _ _ h4, by rw [show vs.length = xs.length from h5.length]; exact big_lt (by omega), ?_⟩⟩
    exact q G1 _ σ ((A.grow g1).setL hi h1 ((h5.mono g1.leG).append (.cons r1 .nil)))
theorem xb_retO {L β C : Type} [Rp β] {F : Kt L β C} (c0 : Cok X Γ N sc k) {x : Str} (i : Nat) {α : Type} {I : Ow α} {z : α} {c : C} (hi : ρ[i]? = some (.own α I z)) (hc : I.canF = true) (hN : N[i]? = some x) (hv : Vis sc x) {b : β} (hb : ∀ G v, I.iF.rep Γ G v (I.toF z) → rep Γ G v b)
    (hfp : ∀ G H v fp, I.own Γ G H v fp z → ∀ p, v = .ref p → p ∈ fp) (hM : F.fr = true → B.M = []) (ops : List (Nat × Bool)) (hw : Sim.wks (ρ.set i (.val I.F I.iF (I.toF z))) ops = F.str c) (hd : (x == ("__debug__" : Str)) = false := by decide) (hcd : (x == ("__classdict__" : Str)) = false := by decide) (how : F.ow = none := by rfl) :
    XB1 X Γ B F ρ (.Return (some (.Name x p)) pos) (S := S) (some (.ret b c)) sto := imS (lkS' (ps_ret (pv_ c0 hN hv hd hcd))) fun D σ H ⟨G, s, A, e, q⟩ => by
  cases e
  have hlen : i < ρ.length := (List.getElem?_eq_some_iff.mp hi).1
  obtain ⟨φ, s1, s2⟩ := A.slots
  obtain ⟨o, e1, v, e2, ow'⟩ := s1.ok i _ hi
  rw [e2] at e1
  refine ⟨v, e1, ((A.freeze hi hc).mono fun H1 ⟨G', l, A'⟩ => ?_).join⟩
  refine (A'.wks ops).mono fun H2 ⟨G2, l2, A2⟩ => ?_
  obtain ⟨w, h1, h2⟩ := A'.get (α := I.F) (I := I.iF) (a := I.toF z) (i := i) (by rw [List.getElem?_set_self hlen])
  rw [e1] at h1
  cases h1
  refine q v G2 H2 σ (hw ▸ A2) (Rp.mono l2 (hb _ _ h2)) (fun hfr p hp => ?_) (fun P h => by rw [how] at h; cases h)
  rcases (s2 i p (hfp _ _ _ _ ow' p hp)).2 with z | z
  · exact z
  · rw [hM hfr] at z; simp at z
def look {κ α : Type} [DecidableEq κ] (d : List (κ × α)) (k : κ) : Option α := (d.find? fun kv => decide (kv.1 = k)).map (·.2)
theorem look_pos {κ α : Type} [DecidableEq κ] {q : κ × α} {r : List (κ × α)} {x : κ} (e : q.1 = x) : look (q :: r) x = some q.2 := by simp [look, List.find?_cons, e]
theorem look_neg {κ α : Type} [DecidableEq κ] {q : κ × α} {r : List (κ × α)} {x : κ} (e : ¬ q.1 = x) : look (q :: r) x = look r x := by simp [look, List.find?_cons, e]
theorem RpK.look {κ : Type} [K1 κ] [DecidableEq κ] {G : Hp} {x : κ} : ∀ {kvs : List (Key × V)} {d : List (κ × α)}, RpK Γ G kvs d → (∀ y, Sim.look d x = some y → ∃ v, valV kvs (key x) = some v ∧ rep Γ G v y) ∧ (Sim.look d x = none → valV kvs (key x) = none)
  | _, _, .nil => ⟨fun y h => (by cases h), fun _ => rfl⟩
  | p :: _, q :: d', .cons r t => by
    have ih := RpK.look (x := x) t
    by_cases e : q.1 = x
    · refine ⟨fun y h => ?_, fun h => ?_⟩
      · rw [look_pos e] at h
        cases h
        exact ⟨p.2, valV_pos (by rw [r.1, e]), r.2⟩
      · rw [look_pos e] at h
        cases h
    · have ne : ¬ p.1 = key x := fun z => e (K1.inj _ _ (r.1.symm.trans z))
      rw [look_neg e, valV_neg ne]
      exact ih
class KAt (κ : Type) [K1 κ] [At1 κ] : Prop where
  same : ∀ x : κ, kV (key x) = toV x
instance : KAt Int := ⟨fun _ => rfl⟩
instance : KAt Tt := ⟨fun _ => rfl⟩
end
end Sim
namespace Sim
open PySem L2
open Rp (rep)
open At1 (toV)
open K1 (key)
open KT (keys)
open Ow (own)
open RpA (repA stoA)
structure Ch where
  c : Nat
  ok : c < 0x110000
  deriving DecidableEq
instance : At1 Ch := ⟨fun x => .str ⟨#[x.c]⟩, fun _ => rfl⟩
theorem Ch.ext' {a b : Ch} (h : a.c = b.c) : a = b := by
  cases a; cases b; cases h; rfl
theorem Tt.get (z : Tt) {i c : Nat} (h : z.s.cps[i]? = some c) : c < 0x110000 := by
  have q := z.ok
  unfold PyData.strOk at q
  rw [Array.all_eq_true] at q
  obtain ⟨h1, h2⟩ := Array.getElem?_eq_some_iff.mp h
  have := q i h1
  rw [h2] at this
  exact of_decide_eq_true this
theorem Tt.mem (z : Tt) {c : Nat} (h : c ∈ z.s.cps.toList) : c < 0x110000 := by
  obtain ⟨i, hi⟩ := List.getElem?_of_mem h
  exact z.get (i := i) (by simpa using hi)
def signs (z : Tt) : List Ch := z.s.cps.toList.pmap Ch.mk fun _ h => z.mem h
theorem signs_get (z : Tt) {i c : Nat} (h : z.s.cps[i]? = some c) : (signs z)[i]? = some ⟨c, z.get h⟩ := by
  unfold signs
  have h : z.s.cps.toList[i]? = some c := by simpa using h
  rw [List.getElem?_pmap]
  simp [h]
theorem signs_length (z : Tt) : (signs z).length = z.s.cps.size := by simp [signs]
def inS (c : Ch) (z : Tt) : Bool := decide (c.c ∈ z.s.cps.toList)
section
variable {X : Cx} {Γ : Gm} {B : Bs} {ρ ρ' : Sto} {N : List Str} {sc : Scope} {k : Nat} {fx : List Nat} {W : WX} {M : List Addr} {pos p p' : Pos} {e a b o tg it elt : Expr} {es : List Expr} {S : Type} {sto : S → Sto}
variable {α β γ : Type} [Rp α] [Rp β] [Rp γ]
theorem xi_str {m : Option Tt} (h : XE X Γ B ρ e m) : XI X Γ B ρ tg e (m.bind fun z => some (signs z)) := imI (pi_str h) fun σ H R ⟨G, xs, A, e, q⟩ => by
  cases m with
  | none => cases e
  | some z =>
    cases e
    refine ⟨G, z, A, rfl, fun v G1 H1 g1 r1 => ⟨z.s, rep1 r1, q _ G1 H1 g1 ⟨fun i H v H' => H' = H ∧ ∃ c, z.s.cps[i]? = some c ∧ v = .str ⟨#[c]⟩, ?_, fun i H v H1 hi ⟨y1, c, y2, y3⟩ G2 l2 s2 => ?_⟩⟩⟩
    · rw [signs_length]
      exact walk_str.mono (fun _ _ => trivial) fun i H x H' _ _ y => y
    · subst y1
      exact ⟨⟨c, z.get y2⟩, G2, signs_get z y2, .refl s2, y3⟩
theorem o_notInS : Op2 Γ (fun x y H Q => ∃ (c : Nat) (z : Str), x = .str ⟨#[c]⟩ ∧ y = .str z ∧ Q (.bl (!decide (c ∈ z.cps.toList))) H) fun (c : Ch) (z : Tt) => some (!inS c z) := op2_pure fun p q z H Q e k => ⟨p.c, q.s, rfl, rfl, by cases e; exact k⟩
@[irreducible] def slen (z : Tt) : Option Int := if z.s.length ≤ BIG then some (z.s.length : Int) else none
theorem xe_lenS (c : Cok X Γ N sc k) {m : Option Tt} (ha : XE X Γ B ρ a m) (hg : Glb sc "len") (hm : Γ.mg "len" = none) (s1 : starEach [a] X.env = (false, eval a X.env) :: starEach [] X.env := by rfl) : XE X Γ B ρ (.Call (.Name "len" p) [a] [] pos) (m.bind slen) :=
  imE (pe_callB call_len_str (c.gl hg) (by rw [c.hmg]; exact hm) PySem.boot_len (pa_cons ha pa_nil s1) (he := s1)) fun σ H Q ⟨G, z, A, e, q⟩ => by
  cases m with
  | none => cases e
  | some x =>
    obtain ⟨hl, e⟩ := ite_some (by have qq : slen x = some z := e; unfold slen at qq; exact qq)
    subst e
    exact ⟨G, x, A, rfl, fun v G1 H1 g1 r1 => ⟨x.s, by rw [rep1 r1]; rfl, big_le hl, q _ G1 H1 g1 rfl⟩⟩
def lcM {α γ : Type} (t : α → Option Bool) (f : α → Option γ) : List α → Option (List γ)
  | [] => some []
  | x :: r => (t x).bind fun b => if b = true then (f x).bind fun y => (lcM t f r).bind fun ys => some (y :: ys) else lcM t f r
@[irreducible] def lcB {α γ : Type} (t : α → Option Bool) (f : α → Option γ) (xs : List α) : Option (List γ) := if xs.length ≤ BIG then lcM t f xs else none
theorem lcM_len {α γ : Type} {t : α → Option Bool} {f : α → Option γ} : ∀ {xs : List α} {ys : List γ}, lcM t f xs = some ys → ys.length ≤ xs.length
  | [], ys, h => by cases h; exact Nat.le_refl _
  | x :: r, ys, h => by
    unfold lcM at h
    cases ht : t x with
    | none => rw [ht] at h; cases h
    | some b =>
      rw [ht] at h
      cases b with
      | false =>
        have h : lcM t f r = some ys := h
        exact Nat.le_succ_of_le (lcM_len h)
      | true =>
        cases hf : f x with
        | none => rw [hf] at h; cases h
        | some y =>
          rw [hf] at h
          cases hr : lcM t f r with
          | none => rw [hr] at h; cases h
          | some zs =>
            rw [hr] at h
            cases h
            exact Nat.succ_le_succ (lcM_len hr)
theorem At.wiped {G H : Hp} {σ : St} (A : At Γ B ρ G H σ) (i : Nat) (hf : i ∉ B.fx) : At Γ B (ρ.set i .dead) G H (σ.set i none) := by
  by_cases hi : i < ρ.length
  · obtain ⟨φ, h1, h3⟩ := A.slots
    refine ⟨A.sub, A.le, A.keep, A.live, A.thin, ⟨setφ φ i [], h1.set hi rfl fun j x _ hx => by simp at hx, fun j a ha => ?_⟩, fun j hj => ?_⟩
    · rcases mem_setφ ha with ⟨_, q⟩ | ⟨_, q⟩
      · simp at q
      · exact h3 j a q
    · rw [List.getElem?_set_ne fun z => hf (by rw [z]; exact hj)]
      exact A.fix j hj
  · rw [List.set_eq_of_length_le (by omega), List.set_eq_of_length_le (by rw [A.len]; omega)]
    exact A
theorem wipe_set1 {σ : St} {i : Nat} {v : V} : wipe ((wipe σ [i]).set i (some v)) [i] = wipe σ [i] := by
  show (((σ.set i none).set i (some v)).set i none) = σ.set i none
  simp
def hideD (H : Hp) (D : Addr) : Hp := fun a => if a = D then none else H a
theorem Grow.hide {G0 H0 G H : Hp} {D : Addr} (g : Grow G0 H0 G H) (h0 : H0 D = none) (hG : G D = none) : Grow G0 H0 G (hideD H D) := by
  refine ⟨g.leG, fun a o e => ?_, fun a o e => ?_, g.thin⟩
  · have z : a ≠ D := fun z => by rw [z, h0] at e; cases e
    show (if a = D then none else H a) = some o
    rw [if_neg z]; exact g.leH a o e
  · have z : a ≠ D := fun z => by rw [z, hG] at e; cases e
    have hz : hideD H D a = H a := if_neg z
    rw [hz]
    exact g.sub a o e
theorem upd_hide {H : Hp} {D : Addr} {o : HO} (h : H D = some o) : upd (hideD H D) D o = H := by
  funext a
  unfold upd hideD
  by_cases z : a = D
  · rw [if_pos z, z, h]
  · rw [if_neg z, if_neg z]
theorem Grow.item {G0 H0 G1 H1 G2 H2 : Hp} {D : Addr} {vs ws : List V} (g : Grow G0 H0 G1 H1) (h0 : H0 D = none) (hG : G1 D = none) (hD : H1 D = some (.lst vs)) (g2 : Grow G1 H1 G2 H2) :
    Grow G0 H0 G2 (upd H2 D (.lst ws)) ∧ G2 D = none ∧ H2 D = some (.lst vs) := by
  have hG2 : G2 D = none := (g2.thin D (some_ne hD) hG).none fun ws e => by rw [hD] at e; cases e
  have g3 := g.trans g2
  refine ⟨⟨g3.leG, fun a o e => ?_, fun a o e => ?_, g3.thin⟩, hG2, g2.leH _ _ hD⟩
  · have z : a ≠ D := fun z => by rw [z, h0] at e; cases e
    rw [upd_ne z]; exact g3.leH a o e
  · have z : a ≠ D := fun z => by rw [z, hG2] at e; cases e
    rw [upd_ne z]; exact g3.sub a o e
theorem Cok.blk (c : Cok X Γ N sc k) {s : Shared} {H : Hp} {scope : Scope} {C : Addr} {cl : List (Str × Addr)} {fp : List Addr} {sc' : Scope} (h : relS scope sc = sc') : Cok (X.blk s H scope (compEnvC scope cl C X.env) fp) Γ N sc' k :=
  ⟨c.hP, c.hw, c.hK, c.hmg, c.hbase, c.hN, c.nd, by rw [← h, ← c.hsc]; rfl, c.calm, c.room⟩
theorem lc_sim {i : Nat} {mxs : Option (List α)} {t : α → Option Bool} {f : α → Option γ} (hf : i ∉ B.fx) (hρ : i < ρ.length) {σ : St} {H : Hp} {Q : VK} (h : cN Γ B ρ (mxs.bind (lcB t f)) σ H Q) :
    tLc (cI Γ B ρ mxs) (gName i) (fun σ H Q => ∃ a, cT Γ B (ρ.set i (vl a)) (t a) σ H Q) (fun σ H Q => ∃ a, cE Γ B (ρ.set i (vl a)) (f a) σ H Q) [i] σ H Q := by
  obtain ⟨G, zs, A, e, q⟩ := h
  cases mxs with
  | none => cases e
  | some xs =>
    obtain ⟨hl, e⟩ : xs.length ≤ BIG ∧ lcM t f xs = some zs := by
      have e : lcB t f xs = some zs := e
      unfold lcB at e
      by_cases hc : xs.length ≤ BIG
      · rw [if_pos hc] at e; exact ⟨hc, e⟩
      · rw [if_neg hc] at e; cases e
    refine ⟨G, xs, A, rfl, fun J G' H' g ⟨Y, hw, hy⟩ D hD => ?_⟩
    have hGD : G' D = none := g.sub.none hD
    refine lc_it (g := gName i) (tt := fun σ H Q => ∃ a, cT Γ B (ρ.set i (vl a)) (t a) σ H Q) (te := fun σ H Q => ∃ a, cE Γ B (ρ.set i (vl a)) (f a) σ H Q) (vs := [i]) (σ := σ) (Qd := fun H2 => Q (.ref D) H2) hw (fun j H2 => ∃ G1 vs ys ws, Grow G' H' G1 H2 ∧ G1 D = none ∧ H2 D = some (.lst vs) ∧ RpL Γ G1 vs ys ∧ lcM t f (xs.drop j) = some ws ∧ ys ++ ws = zs)
      ⟨G', [], [], zs, Grow.newO g.sub hD _, hGD, upd_same, .nil, e, rfl⟩ (fun j H2 _ ⟨G1, vs, ys, ws, g1, _⟩ => ⟨G1, g1.leG, g1.sub⟩) ?_ ?_
    · rintro j v H2 H3 hj ⟨G1, vs, ys, ws, g1, hG1, hD1, r1, e1, e2⟩ y
      obtain ⟨x0, G2, hx0, g2, rv⟩ := hy j H2 v H3 hj y G1 g1.leG g1.sub
      have ed : xs.drop j = x0 :: xs.drop (j + 1) := by
        obtain ⟨h1, h2⟩ := List.getElem?_eq_some_iff.mp hx0
        rw [List.drop_eq_getElem_cons h1, h2]
      rw [ed] at e1
      unfold lcM at e1
      have A2 := ((A.grow g).grow g1).grow g2
      have A3 : At Γ B (ρ.set i (vl x0)) G2 H3 ((σ.set i none).set i (some v)) := by
        have := (A2.wiped i hf).setV (i := i) (by simpa using hρ) rv hf
        simpa using this
      show wipe ((wipe σ [i]).set i (some v)) [i] = wipe σ [i] ∧ _
      refine ⟨wipe_set1, ?_⟩
      cases hb : t x0 with
      | none => rw [hb] at e1; cases e1
      | some b =>
        rw [hb] at e1
        refine ⟨x0, G2, b, A3, hb, fun G4 H4 g4 => ?_⟩
        cases b with
        | false =>
          have e1 : lcM t f (xs.drop (j + 1)) = some ws := e1
          obtain ⟨z1, z2, z3⟩ := Grow.item (ws := vs) g1 hD hG1 hD1 (g2.trans g4)
          refine ⟨G4, vs, ys, ws, ⟨z1.leG, ((g1.trans g2).trans g4).leH, ((g1.trans g2).trans g4).sub, z1.thin⟩, z2, z3, r1.mono (g2.trans g4).leG, e1, e2⟩
        | true =>
          have e1 : (f x0).bind (fun y => (lcM t f (xs.drop (j + 1))).bind fun ys => some (y :: ys)) = some ws := e1
          cases hfx : f x0 with
          | none => rw [hfx] at e1; cases e1
          | some y =>
            rw [hfx] at e1
            cases hr : lcM t f (xs.drop (j + 1)) with
            | none => rw [hr] at e1; cases e1
            | some us =>
              rw [hr] at e1
              cases e1
              refine ⟨x0, G4, y, A3.grow g4, hfx, fun w G5 H5 g5 r5 => ?_⟩
              obtain ⟨z1, z2, z3⟩ := Grow.item (ws := vs ++ [w]) g1 hD hG1 hD1 ((g2.trans g4).trans g5)
              have hz := lcM_len hr
              have hzl : zs.length ≤ xs.length := lcM_len e
              refine ⟨vs, z3, ?_, G5, vs ++ [w], ys ++ [y], us, z1, z2, upd_same, (r1.mono ((g2.trans g4).trans g5).leG).append (.cons r5 .nil), rfl, by rw [← e2]; simp⟩
              have : vs.length = ys.length := r1.length
              have h3 : ys.length ≤ zs.length := by rw [← e2]; simp
              exact big_lt (by omega)
    · rintro H2 ⟨G1, vs, ys, ws, g1, hG1, hD1, r1, e1, e2⟩
      rw [List.drop_length] at e1
      have e1 : some ([] : List γ) = some ws := e1
      have e1 := Option.some.inj e1
      subst e1
      rw [List.append_nil] at e2
      subst e2
      have := q D vs G1 (hideD H2 D) (g.trans (g1.hide hD hG1)) (if_pos rfl) r1
      rw [upd_hide hD1] at this
      exact this
theorem lc_pre {i : Nat} (hρ : Nat.ble (i + 1) ρ.length = true) (hfc : fx.contains i = false) (hfx : B.fx = fx) : i ∉ B.fx ∧ i < ρ.length := by
  refine ⟨fun hm => ?_, Nat.le_of_ble_eq_true hρ⟩
  rw [hfx] at hm
  rw [List.contains_iff_mem.mpr hm] at hfc
  cases hfc
theorem xn_lc (d : Cok X Γ N sc k) {x : Str} {px : Pos} {i : Nat} {ifs : List Expr} {scope sc' : Scope} {mxs : Option (List α)} {t : α → Option Bool} {f : α → Option γ} (hi : XI X Γ B ρ (.Name x px) it mxs) (hsc : relS scope sc = sc') (hB : blkC N sc scope [(x, i)] = true) (hx : N[i]? = some x) (hxl : scope.names.lookup x = some .local) (hxl' : sc'.names.lookup x = some .local) (hfx : B.fx = fx)
    (ht : ∀ X', Cok X' Γ N sc' k → ∀ a : α, PTs X' ifs (cT Γ B (ρ.set i (vl a)) (t a)))
    (he : ∀ X', Cok X' Γ N sc' k → ∀ a : α, XE X' Γ B (ρ.set i (vl a)) elt (f a)) (hs : ∀ x, foldedSetIterable it X.env x = pure x := by intro _; rfl) (hρ : Nat.ble (i + 1) ρ.length = true := by rfl) (hfc : fx.contains i = false := by rfl) :
    XN X Γ B ρ (.ListComp elt [⟨.Name x px, it, ifs, 0⟩] scope pos) (mxs.bind (lcB t f)) := by
  have cb : ∀ (s : Shared) (H : Hp) (C : Addr) (cl : List (Str × Addr)) (fp : List Addr), Cok (X.blk s H scope (compEnvC scope cl C X.env) fp) Γ N sc' k := fun s H C cl fp => d.blk hsc
  exact imE (pe_lc (own := [(x, i)]) (g := gName i) (tt := fun σ H Q => ∃ a, cT Γ B (ρ.set i (vl a)) (t a) σ H Q) (te := fun σ H Q => ∃ a, cE Γ B (ρ.set i (vl a)) (f a) σ H Q) d.calm (by rw [d.hN]; exact d.nd) hi (by rw [d.hN, d.hsc]; exact blkOk_by hB)
    (fun s H C cl fp => pg_name (i := i) (by rw [(cb s H C cl fp).hN]; exact d.nd) (by rw [(cb s H C cl fp).hN]; exact hx) (by rw [(cb s H C cl fp).hsc]; exact .inl hxl') (.inr (by rw [(cb s H C cl fp).hsc]; exact hxl')))
    (fun s H C cl fp => ⟨fun pins s' σ H' Q I ⟨a, q⟩ => (ht _ (cb s H C cl fp) a).run pins s' σ H' Q I q⟩) (fun s H C cl fp => allE fun a => he _ (cb s H C cl fp) a) hs) fun σ H Q h => lc_sim (lc_pre hρ hfc hfx).1 (lc_pre hρ hfc hfx).2 h
theorem sw_lc (c : Cok X Γ N sc k) {elt : Expr} {gens : List Comprehension} {scope : Scope} {y : Str} {py pos : Pos} {line : Nat} : swapsWith (.ListComp elt gens scope pos) (some (.Name y py)) line X.env =
    pure ((if sc.kind.isAnnotationScope then ScopeKind.function else sc.kind) == .function && sc.names.lookup y == some .local && py.line == pos.line && !(scope.names.any fun (n, k) => n == y && (k == .local || k == .cell))) := by
  rw [← c.hsc]; rfl
theorem xp_setLcN (d : Dok X Γ B N sc k fx W M) {x y : Str} {px py : Pos} {i j : Nat} {ifs : List Expr} {scope sc' : Scope} {p : Pos} {mxs : Option (List α)} {t : α → Option Bool} {f : α → Option γ} (hj : N[j]? = some y) (hyl : sc.names.lookup y = some .local) (hsw : ((if sc.kind.isAnnotationScope then ScopeKind.function else sc.kind) == .function && sc.names.lookup y == some .local && py.line == p.line && !(scope.names.any fun (n, k) => n == y && (k == .local || k == .cell))) = true) (hi : XI X Γ B ρ (.Name x px) it mxs) (hsc : relS scope sc = sc') (hB : blkC N sc scope [(x, i)] = true) (hx : N[i]? = some x) (hxl : scope.names.lookup x = some .local) (hxl' : sc'.names.lookup x = some .local)
    (ht : ∀ X', Cok X' Γ N sc' k → ∀ a : α, PTs X' ifs (cT Γ B (ρ.set i (vl a)) (t a)))
    (he : ∀ X', Cok X' Γ N sc' k → ∀ a : α, XE X' Γ B (ρ.set i (vl a)) elt (f a)) (hs : ∀ x, foldedSetIterable it X.env x = pure x := by intro _; rfl) (hρ : Nat.ble (i + 1) ρ.length = true := by rfl) (hfc : fx.contains i = false := by rfl) (hρ2 : Nat.ble (j + 1) ρ.length = true := by rfl) (hf2 : fx.contains j = false := by rfl) :
    XP1 X Γ B ρ (.Assign [.Name y py] (.ListComp elt [⟨.Name x px, it, ifs, 0⟩] scope p) pos) (mxs.bind (lcB t f)) (fun z => ρ.set j (ow (OL.mk z))) := by
  have cb : ∀ (s : Shared) (H : Hp) (C : Addr) (cl : List (Str × Addr)) (fp : List Addr), Cok (X.blk s H scope (compEnvC scope cl C X.env) fp) Γ N sc' k := fun s H C cl fp => d.toCok.blk hsc
  exact imS (ps_setLc (own := [(x, i)]) (g := gName i) (tt := fun σ H Q => ∃ a, cT Γ B (ρ.set i (vl a)) (t a) σ H Q) (te := fun σ H Q => ∃ a, cE Γ B (ρ.set i (vl a)) (f a) σ H Q) d.calm (by rw [d.hN]; exact d.nd) (by rw [d.hN]; exact hj) (by rw [d.hsc]; exact hyl) ((sw_lc d.toCok).trans (by rw [hsw])) hi (by rw [d.hN, d.hsc]; exact blkOk_by hB)
    (fun s H C cl fp => pg_name (i := i) (by rw [(cb s H C cl fp).hN]; exact d.nd) (by rw [(cb s H C cl fp).hN]; exact hx) (by rw [(cb s H C cl fp).hsc]; exact .inl hxl') (.inr (by rw [(cb s H C cl fp).hsc]; exact hxl')))
    (fun s H C cl fp => ⟨fun pins s' σ H' Q I ⟨a, q⟩ => (ht _ (cb s H C cl fp) a).run pins s' σ H' Q I q⟩) (fun s H C cl fp => allE fun a => he _ (cb s H C cl fp) a) hs) fun D σ H ⟨G, s, A, e, q⟩ => lc_sim (lc_pre hρ hfc d.hfx).1 (lc_pre hρ hfc d.hfx).2 (Q := fun v H1 => gName j v σ H1 D.nx) ⟨G, s, A, e, fun p vs G1 H1 g hp r => q G1 _ _ ((A.grow g).setN (Nat.le_of_ble_eq_true hρ2) hp ⟨p, vs, rfl, rfl, upd_same, r⟩ (lc_pre hρ2 hf2 d.hfx).1)⟩
theorem xts_nil (ρ : α → Sto) (a : α) : PTs X [] (cT Γ B (ρ a) (some true)) := ⟨fun pins s σ H Q I ⟨G, z, A, e, q⟩ => pts_nil.run pins s σ H Q I (by cases e; exact q G H (.refl A.sub))⟩
theorem xts_one {m : Option Bool} (h : XT X Γ B ρ e m) : PTs X [e] (cT Γ B ρ m) := pts_one h
theorem xb_retN {L C : Type} {F : Kt L (List γ) C} {m : Option (List γ)} {c : C} (he : XN X Γ B ρ e m) (hc : F.str c = ρ') (ops : List (Nat × Bool)) (hw : Sim.wks ρ ops = ρ') (hM : F.fr = true → B.M = []) (how : F.ow = none := by rfl) : XB1 X Γ B F ρ (.Return (some e) pos) (S := S) (m.bind fun b => some (.ret b c)) sto := imS (lkS' (ps_ret he)) fun D σ H ⟨G, s, A, e, q⟩ => by
  cases m with
  | none => cases e
  | some b =>
    cases e
    refine ⟨G, b, A, rfl, fun p vs G1 H1 g hp r => ?_⟩
    have g2 := Grow.new g.sub hp (.lst vs)
    refine ((A.grow (g.trans g2)).wks ops).mono fun H2 ⟨G2, l2, A2⟩ => ?_
    refine q (.ref p) G2 _ σ (by rw [hc, ← hw]; exact A2) ⟨p, vs, rfl, l2 _ _ upd_same, r.mono (g2.leG.trans l2)⟩ (fun hfr p' hp' => ?_) (fun P h => by rw [how] at h; cases h)
    cases hp'
    cases z : B.H p with
    | none => rfl
    | some o =>
      have := A.keep p o (by rw [hM hfr]; simp) z
      have := g.leH p o this
      rw [hp] at this
      cases this
end
end Sim
namespace Sim
open PySem L2
open Rp (rep)
open At1 (toV)
open K1 (key)
open KT (keys)
open Ow (own)
open RpA (repA stoA)
abbrev XC (X : Cx) (Γ : Gm) (B : Bs) (ρ : Sto) (op : CmpOp) (a b : Expr) (m : Option Bool) : Prop := PC X op a b (cE Γ B ρ m)
section
variable {X : Cx} {Γ : Gm} {B : Bs} {ρ ρ' : Sto} {N : List Str} {sc : Scope} {k : Nat} {fx : List Nat} {W : WX} {M : List Addr} {pos p p' : Pos} {e a b o tg it elt : Expr} {es : List Expr} {S : Type} {sto : S → Sto}
variable {α β γ : Type} [Rp α] [Rp β] [Rp γ]
theorem imC {op : CmpOp} {t t' : TE} (h : PC X op a b t) (k : ∀ σ H Q, t' σ H Q → t σ H Q) : PC X op a b t' := ⟨fun pins s σ H Q I q => h.run pins s σ H Q I (k σ H Q q)⟩
theorem pc_R {op : CmpOp} {r : R2} {ta tb : TE} (ho : OpR X (compareOp op) r) (ha : PE X a ta) (hb : PE X b tb) : PC X op a b (tOp r ta tb) := ⟨fun pins s σ H Q I h => bin ha hb I h fun v u s2 x y H2 I2 rx ry q => ho pins s2 σ H2 x y v u Q I2 rx ry q⟩
theorem xe_ofC {op : CmpOp} {m : Option Bool} (h : XC X Γ B ρ op a b m) (h1 : behindInMarks op b = false := by rfl) : XE X Γ B ρ (.Compare a [op] [b] pos) m := pe_cmp h h1
theorem xt_ofC {op : CmpOp} {m : Option Bool} (h : XC X Γ B ρ op a b m) (h1 : behindInMarks op b = false := by rfl) : XT X Γ B ρ (.Compare a [op] [b] pos) m := imT (pt_cmp h h1) fun σ H Q ⟨G, z, A, e, q⟩ => ⟨G, z, A, e, fun v G' H' g r => ⟨z, rep1 r, q G' H' g⟩⟩
theorem xc_op2 {op : CmpOp} {r : R2} {ma : Option α} {mb : Option β} {f : α → β → Option Bool} (ho : OpR X (compareOp op) r) (hf : Op2 Γ r f) (ha : XE X Γ B ρ a ma) (hb : XE X Γ B ρ b mb) : XC X Γ B ρ op a b (b2 ma mb f) := imC (pc_R ho ha hb) fun _ _ _ h => sim2 hf h
theorem xc_in {α : Type} [At1 α] [DecidableEq α] [AtE α] {ma : Option α} {mb : Option (List α)} (ha : XE X Γ B ρ a ma) (hb : XR X Γ B ρ b mb) : XC X Γ B ρ .In a b (b2 ma mb fun x xs => some (isIn x xs)) := imC (pc_R op_in_seq ha hb) fun σ H Q ⟨G, z, A, e, q⟩ => by
  cases ma with
  | none => cases e
  | some x =>
    cases mb with
    | none => cases e
    | some xs =>
      cases e
      refine ⟨G, x, A, rfl, fun v G1 H1 g1 r1 => ⟨G1, xs, A.grow g1, rfl, fun p vs G2 H2 g2 hp r2 => ⟨p, vs, rfl, .inl (SqL.of hp), by rw [rep1 r1]; exact At1.flat x, by rw [r2.toV]; exact flat_map xs, q _ G2 H2 (g1.trans g2) ?_⟩⟩⟩
      show V.bl (inV v vs) = V.bl _
      rw [rep1 r1, r2.toV, inV_dec]
theorem xc_notIn {α : Type} [At1 α] [DecidableEq α] [AtE α] {ma : Option α} {mb : Option (List α)} (ha : XE X Γ B ρ a ma) (hb : XR X Γ B ρ b mb) : XC X Γ B ρ .NotIn a b (b2 ma mb fun x xs => some (!isIn x xs)) := imC (pc_R op_notIn_seq ha hb) fun σ H Q ⟨G, z, A, e, q⟩ => by
  cases ma with
  | none => cases e
  | some x =>
    cases mb with
    | none => cases e
    | some xs =>
      cases e
      refine ⟨G, x, A, rfl, fun v G1 H1 g1 r1 => ⟨G1, xs, A.grow g1, rfl, fun p vs G2 H2 g2 hp r2 => ⟨p, vs, rfl, .inl (SqL.of hp), by rw [rep1 r1]; exact At1.flat x, by rw [r2.toV]; exact flat_map xs, q _ G2 H2 (g1.trans g2) ?_⟩⟩⟩
      show V.bl (!inV v vs) = V.bl _
      rw [rep1 r1, r2.toV, inV_dec]
theorem xc_din (c : Cok X Γ N sc k) {κ : Type} [K1 κ] [At1 κ] [KAt κ] [DecidableEq κ] {md : Option (List (κ × α))} {mk : Option κ} (ha : XE X Γ B ρ a mk) (hb : XDK X Γ B ρ b md) : XC X Γ B ρ .In a b (b2 mk md fun x d => some (look d x).isSome) := imC (pc_din c.hu ha hb) fun σ H Q ⟨G, z, A, e, q⟩ => by
  cases mk with
  | none => cases e
  | some x =>
    cases md with
    | none => cases e
    | some d =>
      cases e
      refine ⟨G, x, A, rfl, fun v G1 H1 g1 r1 => ⟨G1, d, A.grow g1, rfl, fun p kvs G2 H2 g2 hp r2 => ⟨p, valV kvs (key x), rfl, .inl ⟨kvs, key x, hp, by rw [KAt.same]; exact rep1 r1, rfl⟩, q _ G2 H2 (g1.trans g2) ?_⟩⟩⟩
      show V.bl _ = V.bl _
      cases hl : look d x with
      | none => rw [(RpK.look (x := x) r2).2 hl]; rfl
      | some y =>
        obtain ⟨v', hv, _⟩ := (RpK.look (x := x) r2).1 y hl
        rw [hv]; rfl
class TKey (κ : Type) [KT κ] [Rp κ] : Prop where
  tup : ∀ {Γ : Gm} {G : Hp} {v : V} {x : κ}, rep Γ G v x → ∃ p, v = .ref p ∧ G p = some (.tup ((keys x).map kV))
instance {α β : Type} [K1 α] [K1 β] [At1 α] [At1 β] [KAt α] [KAt β] : TKey (α × β) := ⟨fun {Γ G v x} ⟨p, u, w, h1, h2, h3, h4⟩ => ⟨p, h1, by rw [h2, rep1 h3, rep1 h4, ← KAt.same, ← KAt.same]; rfl⟩⟩
theorem map_kV {α : Type} [K1 α] [At1 α] [KAt α] : ∀ xs : List α, xs.map toV = (xs.map key).map kV
  | [] => rfl
  | x :: r => by rw [List.map_cons, List.map_cons, List.map_cons, map_kV r, KAt.same]
instance {α : Type} [K1 α] [At1 α] [KAt α] : TKey (TL α) := ⟨fun {Γ G v x} ⟨p, vs, h1, h2, h3⟩ => ⟨p, h1, by
  have := RpL.toV h3
  rw [h2, this, map_kV]; rfl⟩⟩
theorem RpT.look {κ : Type} [KT κ] [DecidableEq κ] {G : Hp} {x : κ} : ∀ {kvs : List (List Key × V)} {d : List (κ × α)}, RpT Γ G kvs d → (∀ y, Sim.look d x = some y → ∃ v, valV kvs (keys x) = some v ∧ rep Γ G v y) ∧ (Sim.look d x = none → valV kvs (keys x) = none)
  | _, _, .nil => ⟨fun y h => (by cases h), fun _ => rfl⟩
  | p :: _, q :: d', .cons r t => by
    have ih := RpT.look (x := x) t
    by_cases e : q.1 = x
    · refine ⟨fun y h => ?_, fun h => ?_⟩
      · rw [look_pos e] at h
        cases h
        exact ⟨p.2, valV_pos (by rw [r.1, e]), r.2⟩
      · rw [look_pos e] at h
        cases h
    · have ne : ¬ p.1 = keys x := fun z => e (KT.inj _ _ (r.1.symm.trans z))
      rw [look_neg e, valV_neg ne]
      exact ih
theorem xc_tin (c : Cok X Γ N sc k) {κ : Type} [KT κ] [Rp κ] [TKey κ] [DecidableEq κ] {md : Option (List (κ × α))} {mk : Option κ} (ha : XE X Γ B ρ a mk) (hb : XDT X Γ B ρ b md) : XC X Γ B ρ .In a b (b2 mk md fun x d => some (look d x).isSome) := imC (pc_din c.hu ha hb) fun σ H Q ⟨G, z, A, e, q⟩ => by
  cases mk with
  | none => cases e
  | some x =>
    cases md with
    | none => cases e
    | some d =>
      cases e
      refine ⟨G, x, A, rfl, fun v G1 H1 g1 r1 => ⟨G1, d, A.grow g1, rfl, fun p kvs G2 H2 g2 hp r2 => ?_⟩⟩
      obtain ⟨t, e1, e2⟩ := TKey.tup (Rp.mono g2.leG r1)
      refine ⟨p, valV kvs (keys x), rfl, .inr ⟨kvs, keys x, t, hp, e1, g2.sub.tup e2, rfl⟩, q _ G2 H2 (g1.trans g2) ?_⟩
      show V.bl _ = V.bl _
      cases hl : look d x with
      | none => rw [(RpT.look (x := x) r2).2 hl]; rfl
      | some y =>
        obtain ⟨v', hv, _⟩ := (RpT.look (x := x) r2).1 y hl
        rw [hv]; rfl
theorem xp_setDK (d : Dok X Γ B N sc k fx W M) {κ : Type} [K1 κ] {x : Str} (i : Nat) (hi : N[i]? = some x) (hx : Loc sc x) (hρ : Nat.ble (i + 1) ρ.length = true := by rfl) (hf : fx.contains i = false := by rfl) (hs : swapsWith (.Dict [] [] p) (some (.Name x p')) pos.line X.env = pure false := by rfl) :
    XP1 X Γ B ρ (.Assign [.Name x p'] (.Dict [] [] p) pos) (some ()) (fun _ => ρ.set i (ow (OK.mk ([] : List (κ × α))))) := imS (ps_set (i := i) (by rw [d.hN]; exact d.nd) (by rw [d.hN]; exact hi) (by rw [d.hsc]; exact hx) pe_dnewK hs (.inl (d.hfn x))) fun D σ H ⟨G, s, A, e, q⟩ =>
  fun p hp => q G _ _ (A.setN (Nat.le_of_ble_eq_true hρ) hp ⟨p, [], rfl, rfl, upd_same, .nil⟩ fun hm => by
    rw [d.hfx] at hm
    rw [List.contains_iff_mem.mpr hm] at hf
    cases hf)
def put {κ α : Type} [DecidableEq κ] (d : List (κ × α)) (k : κ) (v : α) : List (κ × α) := if (d.any fun kv => decide (kv.1 = k)) = true then d.map fun kv => if kv.1 = k then (kv.1, v) else kv else d ++ [(k, v)]
@[irreducible] def dput {κ α : Type} [DecidableEq κ] (d : List (κ × α)) (k : κ) (v : α) : Option (List (κ × α)) := if d.length + 1 ≤ BIG then some (put d k v) else none
theorem any_K {κ : Type} [K1 κ] [DecidableEq κ] {G : Hp} {x : κ} : ∀ {kvs : List (Key × V)} {d : List (κ × α)}, RpK Γ G kvs d → (kvs.any fun kv => decide (kv.1 = key x)) = d.any fun kv => decide (kv.1 = x)
  | _, _, .nil => rfl
  | p :: _, q :: _, .cons r t => by
    rw [List.any_cons, List.any_cons, any_K t]
    congr 1
    rw [r.1]
    exact decide_eq_decide.mpr ⟨fun z => K1.inj _ _ z, fun z => by rw [z]⟩
theorem RpK.put {κ : Type} [K1 κ] [DecidableEq κ] {G : Hp} {x : κ} {v : V} {y : α} {kvs : List (Key × V)} {d : List (κ × α)} (h : RpK Γ G kvs d) (r : rep Γ G v y) : RpK Γ G (putK kvs (key x) v) (Sim.put d x y) := by
  unfold putK Sim.put
  rw [any_K h]
  by_cases hc : (d.any fun kv => decide (kv.1 = x)) = true
  · rw [if_pos hc, if_pos hc]
    clear hc
    induction h with
    | nil => exact .nil
    | @cons p q _ _ h t ih =>
      refine .cons ?_ ih
      dsimp only
      by_cases e : q.1 = x
      · rw [if_pos e, if_pos (by rw [h.1, e])]; exact ⟨h.1, r⟩
      · rw [if_neg e, if_neg fun z => e (K1.inj _ _ (h.1.symm.trans z))]; exact h
  · rw [if_neg hc, if_neg hc]
    clear hc
    induction h with
    | nil => exact .cons ⟨rfl, r⟩ .nil
    | cons h t ih => exact .cons h ih
theorem any_T {κ : Type} [KT κ] [DecidableEq κ] {G : Hp} {x : κ} : ∀ {kvs : List (List Key × V)} {d : List (κ × α)}, RpT Γ G kvs d → (kvs.any fun kv => decide (kv.1 = keys x)) = d.any fun kv => decide (kv.1 = x)
  | _, _, .nil => rfl
  | p :: _, q :: _, .cons r t => by
    rw [List.any_cons, List.any_cons, any_T t]
    congr 1
    rw [r.1]
    exact decide_eq_decide.mpr ⟨fun z => KT.inj _ _ z, fun z => by rw [z]⟩
theorem RpT.put {κ : Type} [KT κ] [DecidableEq κ] {G : Hp} {x : κ} {v : V} {y : α} {kvs : List (List Key × V)} {d : List (κ × α)} (h : RpT Γ G kvs d) (r : rep Γ G v y) : RpT Γ G (putK kvs (keys x) v) (Sim.put d x y) := by
  unfold putK Sim.put
  rw [any_T h]
  by_cases hc : (d.any fun kv => decide (kv.1 = x)) = true
  · rw [if_pos hc, if_pos hc]
    clear hc
    induction h with
    | nil => exact .nil
    | @cons p q _ _ h t ih =>
      refine .cons ?_ ih
      dsimp only
      by_cases e : q.1 = x
      · rw [if_pos e, if_pos (by rw [h.1, e])]; exact ⟨h.1, r⟩
      · rw [if_neg e, if_neg fun z => e (KT.inj _ _ (h.1.symm.trans z))]; exact h
  · rw [if_neg hc, if_neg hc]
    clear hc
    induction h with
    | nil => exact .cons ⟨rfl, r⟩ .nil
    | cons h t ih => exact .cons h ih
theorem xp_dput (c : Dok X Γ B N sc k fx W M) {κ : Type} [K1 κ] [At1 κ] [KAt κ] [DecidableEq κ] {x : Str} (i : Nat) {d : List (κ × α)} {mk : Option κ} {mv : Option α} {p2 : Pos} (hi : ρ[i]? = some (ow (OK.mk d))) (hN : N[i]? = some x) (hv : Vis sc x) (hk : XE X Γ B ρ a mk) (he : XE X Γ B ρ e mv) (hd : (x == ("__debug__" : Str)) = false := by decide) (hcd : (x == ("__classdict__" : Str)) = false := by decide)
    (hs : swapsWith e (some (.Subscript (.Name x p) a p2)) pos.line X.env = pure false := by rfl) :
    XP1 X Γ B ρ (.Assign [.Subscript (.Name x p) a p2] e pos) (mv.bind fun v => mk.bind fun y => dput d y v) (fun d' => ρ.set i (ow (OK.mk d'))) := imS (ps_dput c.hu (pv_ c.toCok hN hv hd hcd) hk he hs) fun D σ H ⟨G, s, A, e, q⟩ => by
  cases mv with
  | none => cases e
  | some v =>
    cases mk with
    | none => cases e
    | some y =>
      obtain ⟨hl, e⟩ := ite_some (by have qq : dput d y v = some s := e; unfold dput at qq; exact qq)
      subst e
      refine ⟨G, v, A, rfl, fun w G1 H1 g1 r1 => ?_⟩
      obtain ⟨u, fp, h1, ⟨p, kvs, rfl, h3, h4, h5⟩, h6⟩ := (A.grow g1).getO hi
      refine ⟨.ref p, h1, G1, y, A.grow g1, rfl, fun z G2 H2 g2 r2 => ⟨p, _, rfl, .inl ⟨kvs, key y, g2.leH _ _ h4, by rw [KAt.same]; exact rep1 r2, by rw [show kvs.length = d.length from Paired.length h5]; exact big_lt (by omega), rfl⟩, ?_⟩⟩
      refine q G2 _ σ ((A.grow (g1.trans g2)).setO hi (fun v fp ⟨q, us, e3, e4, _⟩ => ⟨q, e3, e4⟩) h1 ⟨p, _, rfl, rfl, upd_same, ?_⟩)
      exact (h5.mono g2.leG).put (Rp.mono g2.leG r1)
end
end Sim
namespace Sim
open PySem L2
open Rp (rep)
open At1 (toV)
open K1 (key)
open KT (keys)
open Ow (own)
open RpA (repA stoA)
section
variable {X : Cx} {Γ : Gm} {B : Bs} {L β C : Type} [Rp β] {F : Kt L β C} {ρ ρ' : Sto} {N : List Str} {sc : Scope} {k : Nat} {fx : List Nat} {W : WX} {M : List Addr} {pos p p' : Pos} {e a b o tg it : Expr} {st : Stmt} {sts : List Stmt} {es : List Expr} {S : Type} {sto : S → Sto}
variable {α γ : Type} [Rp α] [Rp γ]
theorem xp_end (ops : List (Nat × Bool)) (s : S) (e : Sim.wks ρ ops = sto s) : XP X Γ B ρ [] (some s) sto := imB (lkB' pss_nil) fun D σ H ⟨G, s', A, e1, q⟩ => by
  cases e1
  exact (A.wks ops).mono fun H2 ⟨G', l, A'⟩ => q G' H2 σ (e ▸ A')
theorem xb_end (ops : List (Nat × Bool)) (s : S) (e : Sim.wks ρ ops = sto s) : XB X Γ B F ρ [] (some (Fl.nx s)) sto := xb_of (m := some s) (xp_end ops s e)
theorem xp1_eq {m m' : Option S} (h : XP1 X Γ B ρ st m sto) (q : m = m') : XP1 X Γ B ρ st m' sto := q ▸ h
theorem xn_eq {m m' : Option (List α)} (h : XN X Γ B ρ e m) (q : m = m') : XN X Γ B ρ e m' := q ▸ h
theorem xi_eq {m m' : Option (List α)} (h : XI X Γ B ρ tg e m) (q : m = m') : XI X Γ B ρ tg e m' := q ▸ h
theorem xe_intI (c : Cok X Γ N sc k) {m : Option Int} (ha : XE X Γ B ρ a m) (hg : Glb sc "int") (hm : Γ.mg "int" = none) (s1 : starEach [a] X.env = (false, eval a X.env) :: starEach [] X.env := by rfl) : XE X Γ B ρ (.Call (.Name "int" p) [a] [] pos) m :=
  imE (pe_callTy call_int1 (c.gl hg) (by rw [c.hmg]; exact hm) (by decide +kernel) (pa_cons ha pa_nil s1) (he := s1)) fun σ H Q ⟨G, z, A, e, q⟩ =>
  ⟨G, z, A, e, fun v G1 H1 g1 r1 => .inl ⟨z, by rw [rep1 r1]; rfl, q _ G1 H1 g1 rfl⟩⟩
def minI (i j : Int) : Int := if j < i then j else i
def maxI (i j : Int) : Int := if j > i then j else i
theorem xe_min2 (c : Cok X Γ N sc k) {ma mb : Option Int} (ha : XE X Γ B ρ a ma) (hb : XE X Γ B ρ b mb) (hg : Glb sc "min") (hm : Γ.mg "min" = none) (s1 : starEach [a, b] X.env = (false, eval a X.env) :: starEach [b] X.env := by rfl) (s2 : starEach [b] X.env = (false, eval b X.env) :: starEach [] X.env := by rfl) (hpl : (backTo pos (starEach [b] X.env)).any (·.1) = false := by rfl) :
    XE X Γ B ρ (.Call (.Name "min" p) [a, b] [] pos) (b2 ma mb fun i j => some (minI i j)) :=
  imE (pe_callB (call_min2 c.calm) (c.gl hg) (by rw [c.hmg]; exact hm) PyProof.Rows.boot_min (pa_cons ha (pa_cons hb pa_nil s2) s1) (he := s1) (hpl := hpl)) fun σ H Q ⟨G, z, A, e, q⟩ => by
  cases ma with
  | none => cases e
  | some x =>
    cases mb with
    | none => cases e
    | some y =>
      cases e
      exact ⟨G, x, A, rfl, fun v G1 H1 g1 r1 => ⟨G1, y, A.grow g1, rfl, fun v2 G2 H2 g2 r2 => ⟨x, y, by rw [rep1 r1, rep1 r2]; rfl, q _ G2 H2 (g1.trans g2) rfl⟩⟩⟩
theorem SqL.up {K : PySem.W.Frag} {G H : Hp} {q : Addr} {xs : List V} (s : Sub G H) (h : SqL K G q xs) : SqL K H q xs := by
  rcases h with (h | ⟨o, h⟩) | h
  · exact .inl (.inl (s.lst h))
  · exact .inl (.inr ⟨o, s _ _ h⟩)
  · exact .inr h
theorem xe_lenScr (c : Cok X Γ N sc k) {m : Option Scr} (ha : XE X Γ B ρ a m) (hg : Glb sc "len") (hm : Γ.mg "len" = none) (s1 : starEach [a] X.env = (false, eval a X.env) :: starEach [] X.env := by rfl) (hpl : (backTo pos (starEach [] X.env)).any (·.1) = false := by rfl) : XE X Γ B ρ (.Call (.Name "len" p) [a] [] pos) (m.bind fun xs => some (xs.l.length : Int)) :=
  imE (pe_callB call_len_seq (c.gl hg) (by rw [c.hmg]; exact hm) PySem.boot_len (pa_cons ha pa_nil s1) (he := s1)) fun σ H Q ⟨G, z, A, e, q⟩ => by
  cases m with
  | none => cases e
  | some xs =>
    cases e
    refine ⟨G, xs, A, rfl, fun v G1 H1 g1 ⟨p, h1, h2⟩ => ⟨p, xs.l.map V.int, by rw [h1], .inl ?_, q _ G1 H1 g1 (by show V.int _ = V.int _; rw [List.length_map])⟩⟩
    rw [c.hK]; exact SqL.up g1.sub h2
theorem xe_ixScr (c : Cok X Γ N sc k) {ma : Option Scr} {mb : Option Int} (ha : XE X Γ B ρ a ma) (hb : XE X Γ B ρ b mb) (hs : PlainIx b := by intro _ _; rfl) : XE X Γ B ρ (.Subscript a b pos) (b2 ma mb fun xs i => atI xs.l i) := imE (pe_ix ix_list ha hb hs) fun σ H Q ⟨G, z, A, e, q⟩ => by
  cases ma with
  | none => cases e
  | some xs =>
    cases mb with
    | none => cases e
    | some i =>
      refine ⟨G, xs, A, rfl, fun v G1 H1 g1 ⟨p, h1, h2⟩ => ⟨G1, i, A.grow g1, rfl, fun v2 G2 H2 g2 r2 => ?_⟩⟩
      refine ⟨p, xs.l.map V.int, i, .int z, h1, rep1 r2, by rw [c.hK]; exact SqL.up (fun x o q => g2.sub x o (g2.leG x o q)) h2, ?_, q _ G2 H2 (g1.trans g2) rfl⟩
      have e : atI xs.l i = some z := e
      unfold atI at e ⊢
      rw [List.length_map]
      cases hi : ixN xs.l.length i with
      | none => rw [hi] at e; cases e
      | some j =>
        rw [hi] at e
        simp only [List.getElem?_map]
        show Option.map V.int xs.l[j]? = _
        rw [show xs.l[j]? = some z from e]; rfl
@[irreducible] def sadd (x y : Tt) : Option Tt := if x.s.length + y.s.length ≤ BIG then some ⟨x.s ++ y.s, by
  have h1 := x.ok
  have h2 := y.ok
  unfold PyData.strOk at *
  show Array.all (x.s.cps ++ y.s.cps) _ = true
  rw [Array.all_append, h1, h2]; rfl⟩ else none
theorem o_addS : Op2 Γ (fun x y H Q => ∃ i j, x = .str i ∧ y = .str j ∧ i.length + j.length ≤ sizeLine ∧ Q (.str (i ++ j)) H) sadd := op2_pure fun p q z H Q e k => by
  unfold sadd at e
  obtain ⟨h, e⟩ := ite_some e
  exact ⟨p.s, q.s, rfl, rfl, big_le h, by subst e; exact k⟩
theorem all_flat (x : Array Nat) (f : Nat → Bool) (h : x.all f = true) : ∀ (n : Nat) (z : Array Nat), z.all f = true → ((List.replicate n x).foldl (· ++ ·) z).all f = true
  | 0, z, hz => hz
  | n + 1, z, hz => by
    rw [List.replicate_succ, List.foldl_cons]
    exact all_flat x f h n (z ++ x) (by rw [Array.all_append, hz, h]; rfl)
theorem op_repS : OpR X (binaryOp .Mult) (fun x y H Q => ∃ i n, x = .str i ∧ y = .int n ∧ MulOk i n ∧ Q (.str (Txt.mul i n)) H) := by
  intro pins s σ H x y v u Q I rx ry h
  obtain ⟨i, n, rfl, rfl, hm, q⟩ := h
  obtain ⟨t, rfl⟩ := rx
  obtain ⟨t', rfl⟩ := ry
  exact SB.mul hm fun t2 k => ⟨.str (Txt.mul i n), H, I.tok _, ⟨_, rfl⟩, q⟩
theorem mulOk {x : Str} {n : Int} (h : 0 ≤ n ∧ n ≤ 1000 ∧ x.length ≤ 1000) : MulOk x n := by
  obtain ⟨h0, h1, h2⟩ := h
  refine ⟨?_, fun hn _ => ?_, fun hn _ => ?_⟩
  · have a1 : ¬ n < -(2 ^ 63 : Int) := by omega
    have a2 : ¬ n ≥ (2 ^ 63 : Int) := by omega
    rw [decide_eq_false a1, decide_eq_false a2]; rfl
  · intro hc
    have h3 : (1000 : Int) ≤ (2 ^ 63 - 1) / n := by
      rw [Int.le_ediv_iff_mul_le (by omega)]
      omega
    omega
  · have : x.length * n.toNat ≤ 1000 * 1000 := Nat.mul_le_mul h2 (by omega)
    show decide (x.length * n.toNat > sizeLine) = false
    rw [decide_eq_false]
    have : (1000 * 1000 : Nat) ≤ sizeLine := by decide
    omega
@[irreducible] def srep (x : Tt) (n : Int) : Option Tt := if 0 ≤ n ∧ n ≤ 1000 ∧ x.s.length ≤ 1000 then some ⟨Txt.mul x.s n, by
  have h1 := x.ok
  unfold PyData.strOk Txt.mul at *
  by_cases c : n < 1
  · rw [if_pos c]; decide +kernel
  · rw [if_neg c]
    split
    · exact h1
    · exact all_flat _ _ h1 _ _ (by decide +kernel)⟩ else none
theorem o_repS : Op2 Γ (fun x y H Q => ∃ i n, x = .str i ∧ y = .int n ∧ MulOk i n ∧ Q (.str (Txt.mul i n)) H) srep := op2_pure fun p q z H Q e k => by
  unfold srep at e
  obtain ⟨h, e⟩ := ite_some e
  exact ⟨p.s, q, rfl, rfl, mulOk h, by subst e; exact k⟩
def chS (c : Ch) : Tt := ⟨⟨#[c.c]⟩, by
  unfold PyData.strOk
  have : decide (c.c < 0x110000) = true := decide_eq_true c.ok
  simp [this, c.ok]⟩
theorem xe_chS {m : Option Ch} (h : XE X Γ B ρ e m) : XE X Γ B ρ e (m.bind fun c => some (chS c)) := imE h fun σ H Q ⟨G, z, A, e, q⟩ => by
  cases m with
  | none => cases e
  | some c =>
    cases e
    exact ⟨G, c, A, rfl, fun v G1 H1 g1 r1 => q v G1 H1 g1 r1⟩
def atS (z : Tt) (i : Int) : Option Ch := if z.s.length ≤ BIG then atI (signs z) i else none
theorem xe_ixS {ma : Option Tt} {mb : Option Int} (ha : XE X Γ B ρ a ma) (hb : XE X Γ B ρ b mb) (hs : PlainIx b := by intro _ _; rfl) : XE X Γ B ρ (.Subscript a b pos) (b2 ma mb atS) := imE (pe_ix ix_str ha hb hs) fun σ H Q ⟨G, z, A, e, q⟩ => by
  cases ma with
  | none => cases e
  | some x =>
    cases mb with
    | none => cases e
    | some i =>
      have e : (if x.s.length ≤ BIG then atI (signs x) i else none) = some z := e
      by_cases hl : x.s.length ≤ BIG
      · rw [if_pos hl] at e
        refine ⟨G, x, A, rfl, fun v1 G1 H1 g1 r1 => ⟨G1, i, A.grow g1, rfl, fun v2 G2 H2 g2 r2 => ⟨x.s, i, z.c, rep1 r1, rep1 r2, big_le hl, ?_, q _ G2 H2 (g1.trans g2) rfl⟩⟩⟩
        unfold atI at e ⊢
        have hsz : x.s.cps.toList.length = (signs x).length := by rw [signs_length, Array.length_toList]
        rw [hsz]
        cases hi : ixN (signs x).length i with
        | none => rw [hi] at e; cases e
        | some j =>
          rw [hi] at e
          have e : (signs x)[j]? = some z := e
          have hj : j < x.s.cps.size := by
            rw [← signs_length]; exact (List.getElem?_eq_some_iff.mp e).1
          have h2 := signs_get x (i := j) (c := x.s.cps[j]) (by simp [hj])
          rw [h2] at e
          cases e
          show x.s.cps.toList[j]? = _
          simp [hj]
      · rw [if_neg hl] at e; cases e
theorem strOk_list {l : List Nat} {x : Str} (h : x.cps.toList = l) (q : ∀ c ∈ l, c < 0x110000) : PyData.strOk x = true := by
  unfold PyData.strOk
  rw [← Array.all_toList, h, List.all_eq_true]
  intro c hc
  exact decide_eq_true (q c hc)
theorem strOk_cut (x : Tt) (lo hi : Option Int) : PyData.strOk (cutS x.s lo hi) = true := strOk_list (l := (x.s.cps.toList.drop (HT.sIx x.s.length 0 lo)).take (HT.sIx x.s.length x.s.length hi - HT.sIx x.s.length 0 lo)) (by simp [cutS]) fun c hc => x.mem (List.mem_of_mem_drop (List.mem_of_mem_take hc))
@[irreducible] def scut (x : Tt) (lo hi : Option Int) : Option Tt := if x.s.length ≤ BIG then some ⟨cutS x.s lo hi, strOk_cut x lo hi⟩ else none
theorem xe_sliceS {m : Option Tt} {lo hi : Option Expr} {ml mh : Option (Option Int)} {p2 : Pos} (ha : XE X Γ B ρ a m) (hl : XO X Γ B ρ lo ml) (hh : XO X Γ B ρ hi mh) : XE X Γ B ρ (.Subscript a (.Slice lo hi none p2) pos) (m.bind fun x => ml.bind fun l => mh.bind fun h => scut x l h) := imE (pe_slice sl_str ha hl hh) fun σ H Q ⟨G, z, A, e, q⟩ => by
  cases m with
  | none => cases e
  | some x =>
    cases ml with
    | none => cases e
    | some l =>
      cases mh with
      | none => cases e
      | some h =>
        obtain ⟨c1, e⟩ := ite_some (by have qq : scut x l h = some z := e; unfold scut at qq; exact qq)
        subst e
        exact ⟨G, x, A, rfl, fun v G1 H1 g1 r1 => ⟨G1, l, A.grow g1, rfl, fun G2 H2 g2 => ⟨G2, h, A.grow (g1.trans g2), rfl, fun G3 H3 g3 => ⟨x.s, rep1 r1, big_le c1, q _ G3 H3 ((g1.trans g2).trans g3) rfl⟩⟩⟩⟩
end
end Sim
namespace Sim
open PySem L2
open Rp (rep)
open At1 (toV)
open K1 (key)
open KT (keys)
open Ow (own)
open RpA (repA stoA)
structure R3 (α β γ : Type) where
  a : α
  b : β
  c : γ
  deriving DecidableEq
instance instRpR3 {α β γ : Type} [Rp α] [Rp β] [Rp γ] : Rp (R3 α β γ) := ⟨fun Γ G v p => ∃ a x y z, v = .ref a ∧ G a = some (.lst [x, y, z]) ∧ rep Γ G x p.a ∧ rep Γ G y p.b ∧ rep Γ G z p.c, fun e ⟨a, x, y, z, h1, h2, h3, h4, h5⟩ => ⟨a, x, y, z, h1, e _ _ h2, Rp.mono e h3, Rp.mono e h4, Rp.mono e h5⟩⟩
class Dat (α : Type) [Rp α] [DecidableEq α] where
  toD : α → PyData
  dep : Nat
  reads : ∀ {Γ : Gm} {G : Hp} {v : V} {a : α}, rep Γ G v a → Dp Γ.K G v (toD a)
  lay : ∀ a, (toD a).canLay0 = true
  deep : ∀ a, (toD a).depth ≤ dep
  eqv : ∀ a b, PyData.eqv (toD a) (toD b) = decide (a = b)
open Dat (toD)
mutual
theorem Dp.up {K : PySem.W.Frag} {G H : Hp} (s : Sub G H) : ∀ {v : V} {d : PyData}, Dp K G v d → Dp K H v d
  | _, _, .non => .non
  | _, _, .bl b => .bl b
  | _, _, .int i => .int i
  | _, _, .str x => .str x
  | _, _, .lst h t => .lst (SqL.up s h) (DpAll.up s t)
  | _, _, .tup h t => .tup (by
      rcases h with (h | ⟨o, h⟩) | h
      · exact .inl (.inl (s.tup h))
      · exact .inl (.inr ⟨o, s _ _ h⟩)
      · exact .inr h) (DpAll.up s t)
theorem DpAll.up {K : PySem.W.Frag} {G H : Hp} (s : Sub G H) : ∀ {vs : List V} {ds : List PyData}, DpAll K G vs ds → DpAll K H vs ds
  | _, _, .nil => .nil
  | _, _, .cons h t => .cons (Dp.up s h) (DpAll.up s t)
end
instance : Dat Int := ⟨fun i => .int i, 0, fun h => by rw [rep1 h]; exact .int _, fun _ => by simp [PyData.canLay0], fun _ => by simp [PyData.depth], fun a b => by simp only [PyData.eqv]; exact Bool.beq_eq_decide_eq a b⟩
instance : Dat Bool := ⟨fun i => .bool i, 0, fun h => by rw [rep1 h]; exact .bl _, fun _ => by simp [PyData.canLay0], fun _ => by simp [PyData.depth], fun a b => by simp only [PyData.eqv]; exact Bool.beq_eq_decide_eq a b⟩
instance : Dat Tt := ⟨fun i => .str i.s, 0, fun h => by rw [rep1 h]; exact .str _, fun a => by simp only [PyData.canLay0]; exact a.ok, fun _ => by simp [PyData.depth], fun a b => by
  simp only [PyData.eqv]
  rw [Bool.beq_eq_decide_eq]
  exact decide_eq_decide.mpr ⟨fun h => Tt.ext' h, fun h => by rw [h]⟩⟩
theorem dat_reads {α : Type} [Rp α] [DecidableEq α] [Dat α] {Γ : Gm} {G : Hp} : ∀ {vs : List V} {xs : List α}, RpL Γ G vs xs → DpAll Γ.K G vs (xs.map toD)
  | _, _, .nil => .nil
  | _, _, .cons r t => .cons (Dat.reads r) (dat_reads t)
theorem dat_lay {α : Type} [Rp α] [DecidableEq α] [Dat α] : ∀ xs : List α, PyData.canLayAll0 (xs.map toD) = true
  | [] => by simp [PyData.canLayAll0]
  | x :: r => by rw [List.map_cons]; simp only [PyData.canLayAll0]; rw [Dat.lay x, dat_lay r]; rfl
theorem dat_deep {α : Type} [Rp α] [DecidableEq α] [Dat α] : ∀ xs : List α, PyData.depthAll (xs.map toD) ≤ Dat.dep α
  | [] => by simp [PyData.depthAll]
  | x :: r => by
    rw [List.map_cons]
    simp only [PyData.depthAll]
    exact Nat.max_le.mpr ⟨Dat.deep x, dat_deep r⟩
theorem dat_eqv {α : Type} [Rp α] [DecidableEq α] [Dat α] : ∀ xs ys : List α, PyData.eqvAll (xs.map toD) (ys.map toD) = decide (xs = ys)
  | [], [] => by simp [PyData.eqvAll]
  | [], y :: t => by simp [PyData.eqvAll]
  | x :: r, [] => by simp [PyData.eqvAll]
  | x :: r, y :: t => by
    rw [List.map_cons, List.map_cons]
    simp only [PyData.eqvAll]
    rw [Dat.eqv x y, dat_eqv r t, ← Bool.decide_and]
    exact decide_eq_decide.mpr ⟨fun ⟨h1, h2⟩ => by rw [h1, h2], fun h => by cases h; exact ⟨rfl, rfl⟩⟩
instance {α : Type} [Rp α] [DecidableEq α] [Dat α] : Dat (List α) := ⟨fun xs => .list (xs.map toD), Dat.dep α + 1, fun ⟨a, vs, h1, h2, h3⟩ => by
    subst h1; exact .lst (SqL.of h2) (dat_reads h3), fun xs => by simp only [PyData.canLay0]; exact dat_lay xs, fun xs => by simp only [PyData.depth]; exact Nat.succ_le_succ (dat_deep xs), fun a b => by simp only [PyData.eqv]; exact dat_eqv a b⟩
instance {α : Type} [Rp α] [DecidableEq α] [Dat α] : Dat (TL α) := ⟨fun xs => .tuple (xs.l.map toD), Dat.dep α + 1, fun ⟨a, vs, h1, h2, h3⟩ => by
    subst h1; exact .tup (SqT.of h2) (dat_reads h3), fun xs => by simp only [PyData.canLay0]; exact dat_lay xs.l, fun xs => by simp only [PyData.depth]; exact Nat.succ_le_succ (dat_deep xs.l), fun a b => by
    simp only [PyData.eqv]; rw [dat_eqv]; exact decide_eq_decide.mpr ⟨fun h => by cases a; cases b; cases h; rfl, fun h => by rw [h]⟩⟩
instance {α β : Type} [Rp α] [DecidableEq α] [Dat α] [Rp β] [DecidableEq β] [Dat β] : Dat (α × β) := ⟨fun p => .tuple [toD p.1, toD p.2], max (Dat.dep α) (Dat.dep β) + 1, fun ⟨a, x, y, h1, h2, h3, h4⟩ => by
    subst h1; exact .tup (SqT.of h2) (.cons (Dat.reads h3) (.cons (Dat.reads h4) .nil)), fun p => by simp only [PyData.canLay0, PyData.canLayAll0]; rw [Dat.lay p.1, Dat.lay p.2]; rfl, fun p => by
    simp only [PyData.depth, PyData.depthAll]
    have h1 := Dat.deep p.1
    have h2 := Dat.deep p.2
    omega, fun a b => by
    simp only [PyData.eqv, PyData.eqvAll, Bool.and_true]
    rw [Dat.eqv a.1 b.1, Dat.eqv a.2 b.2, ← Bool.decide_and]
    exact decide_eq_decide.mpr ⟨fun ⟨h1, h2⟩ => Prod.ext h1 h2, fun h => by rw [h]; exact ⟨rfl, rfl⟩⟩⟩
instance {α β γ : Type} [Rp α] [DecidableEq α] [Dat α] [Rp β] [DecidableEq β] [Dat β] [Rp γ] [DecidableEq γ] [Dat γ] : Dat (T3 α β γ) := ⟨fun p => .tuple [toD p.a, toD p.b, toD p.c], max (Dat.dep α) (max (Dat.dep β) (Dat.dep γ)) + 1, fun ⟨a, x, y, z, h1, h2, h3, h4, h5⟩ => by
    subst h1; exact .tup (SqT.of h2) (.cons (Dat.reads h3) (.cons (Dat.reads h4) (.cons (Dat.reads h5) .nil))), fun p => by simp only [PyData.canLay0, PyData.canLayAll0]; rw [Dat.lay p.a, Dat.lay p.b, Dat.lay p.c]; rfl, fun p => by
    simp only [PyData.depth, PyData.depthAll]
    have h1 := Dat.deep p.a
    have h2 := Dat.deep p.b
    have h3 := Dat.deep p.c
    omega, fun a b => by
    simp only [PyData.eqv, PyData.eqvAll, Bool.and_true]
    rw [Dat.eqv a.a b.a, Dat.eqv a.b b.b, Dat.eqv a.c b.c, ← Bool.decide_and, ← Bool.decide_and]
    exact decide_eq_decide.mpr ⟨fun ⟨h1, h2, h3⟩ => by cases a; cases b; cases h1; cases h2; cases h3; rfl, fun h => by rw [h]; exact ⟨rfl, rfl, rfl⟩⟩⟩
instance {α β γ : Type} [Rp α] [DecidableEq α] [Dat α] [Rp β] [DecidableEq β] [Dat β] [Rp γ] [DecidableEq γ] [Dat γ] : Dat (R3 α β γ) := ⟨fun p => .list [toD p.a, toD p.b, toD p.c], max (Dat.dep α) (max (Dat.dep β) (Dat.dep γ)) + 1, fun ⟨a, x, y, z, h1, h2, h3, h4, h5⟩ => by
    subst h1; exact .lst (SqL.of h2) (.cons (Dat.reads h3) (.cons (Dat.reads h4) (.cons (Dat.reads h5) .nil))), fun p => by simp only [PyData.canLay0, PyData.canLayAll0]; rw [Dat.lay p.a, Dat.lay p.b, Dat.lay p.c]; rfl, fun p => by
    simp only [PyData.depth, PyData.depthAll]
    have h1 := Dat.deep p.a
    have h2 := Dat.deep p.b
    have h3 := Dat.deep p.c
    omega, fun a b => by
    simp only [PyData.eqv, PyData.eqvAll, Bool.and_true]
    rw [Dat.eqv a.a b.a, Dat.eqv a.b b.b, Dat.eqv a.c b.c, ← Bool.decide_and, ← Bool.decide_and]
    exact decide_eq_decide.mpr ⟨fun ⟨h1, h2, h3⟩ => by cases a; cases b; cases h1; cases h2; cases h3; rfl, fun h => by rw [h]; exact ⟨rfl, rfl, rfl⟩⟩⟩
theorem dat_shaped {α : Type} [Rp α] [DecidableEq α] [Dat α] (h : Dat.dep α ≤ 64) (a : α) : SeqAt.shaped (toD a) = true := by
  unfold SeqAt.shaped
  rw [Dat.lay a, decide_eq_true (by have := Dat.deep a; omega)]; rfl
theorem dat_shapedL {α : Type} [Rp α] [DecidableEq α] [Dat α] (h : Dat.dep α ≤ 60) (xs : List α) : SeqAt.shaped (.list (xs.map toD)) = true := dat_shaped (α := List α) (by show Dat.dep α + 1 ≤ 64; omega) xs
section
variable {X : Cx} {Γ : Gm} {B : Bs} {L β C : Type} [Rp β] {F : Kt L β C} {ρ ρ' : Sto} {N : List Str} {sc : Scope} {k : Nat} {fx : List Nat} {W : WX} {M : List Addr} {pos p p' : Pos} {e a b o tg it : Expr} {st : Stmt} {sts : List Stmt} {es : List Expr} {S : Type} {sto : S → Sto}
variable {α γ : Type} [Rp α] [Rp γ]
theorem Cok.hu65 (c : Cok X Γ N sc k) : X.A.units + 65 < cLine := by have := c.room.un; omega
theorem any_eqv {α : Type} [Rp α] [DecidableEq α] [Dat α] (x : α) (xs : List α) : ((xs.map toD).any fun z => PyData.eqv z (toD x)) = decide (x ∈ xs) := by
  rw [List.any_map, Bool.eq_iff_iff, List.any_eq_true, decide_eq_true_iff]
  constructor
  · rintro ⟨y, hy, e⟩
    have e : PyData.eqv (toD y) (toD x) = true := e
    rw [Dat.eqv] at e
    rw [← of_decide_eq_true e]
    exact hy
  · intro h
    exact ⟨x, h, by show PyData.eqv (toD x) (toD x) = true; rw [Dat.eqv]; exact decide_eq_true rfl⟩
theorem xc_deepIn (c : Cok X Γ N sc k) [DecidableEq α] [Dat α] {ma : Option α} {mb : Option (List α)} (ha : XE X Γ B ρ a ma) (hb : XR X Γ B ρ b mb) (hd : Dat.dep α ≤ 60 := by decide) : XC X Γ B ρ .In a b (b2 ma mb fun x xs => some (isIn x xs)) := imC (pc_R (op_inD c.hu65) ha hb) fun σ H Q ⟨G, z, A, e, q⟩ => by
  cases ma with
  | none => cases e
  | some x =>
    cases mb with
    | none => cases e
    | some xs =>
      cases e
      refine ⟨G, x, A, rfl, fun v G1 H1 g1 r1 => ⟨G1, xs, A.grow g1, rfl, fun p vs G2 H2 g2 hp r2 => ⟨toD x, xs.map toD, ?_, ?_, dat_shaped (by omega) x, dat_shapedL hd xs, q _ G2 H2 (g1.trans g2) ?_⟩⟩⟩
      · rw [c.hK]; exact Dp.up g2.sub (Dat.reads (Rp.mono g2.leG r1))
      · rw [c.hK]; exact .lst (SqL.of hp) (DpAll.up g2.sub (dat_reads r2))
      · show V.bl _ = V.bl _
        rw [any_eqv]
theorem xc_eqD (c : Cok X Γ N sc k) [DecidableEq α] [Dat α] {ma mb : Option α} (ha : XE X Γ B ρ a ma) (hb : XE X Γ B ρ b mb) (hd : Dat.dep α ≤ 60 := by decide) : XC X Γ B ρ .Eq a b (b2 ma mb fun x y => some (decide (x = y))) := imC (pc_R (op_eqD c.hu64) ha hb) fun σ H Q ⟨G, z, A, e, q⟩ => by
  cases ma with
  | none => cases e
  | some x =>
    cases mb with
    | none => cases e
    | some y =>
      cases e
      refine ⟨G, x, A, rfl, fun v G1 H1 g1 r1 => ⟨G1, y, A.grow g1, rfl, fun w G2 H2 g2 r2 => ⟨toD x, toD y, ?_, ?_, dat_shaped (by omega) x, dat_shaped (by omega) y, q _ G2 H2 (g1.trans g2) ?_⟩⟩⟩
      · rw [c.hK]; exact Dp.up g2.sub (Dat.reads (Rp.mono g2.leG r1))
      · rw [c.hK]; exact Dp.up g2.sub (Dat.reads r2)
      · show V.bl _ = V.bl _
        rw [Dat.eqv]
theorem xc_neD (c : Cok X Γ N sc k) [DecidableEq α] [Dat α] {ma mb : Option α} (ha : XE X Γ B ρ a ma) (hb : XE X Γ B ρ b mb) (hd : Dat.dep α ≤ 60 := by decide) : XC X Γ B ρ .NotEq a b (b2 ma mb fun x y => some (!decide (x = y))) := imC (pc_R (op_neD c.hu64) ha hb) fun σ H Q ⟨G, z, A, e, q⟩ => by
  cases ma with
  | none => cases e
  | some x =>
    cases mb with
    | none => cases e
    | some y =>
      cases e
      refine ⟨G, x, A, rfl, fun v G1 H1 g1 r1 => ⟨G1, y, A.grow g1, rfl, fun w G2 H2 g2 r2 => ⟨toD x, toD y, ?_, ?_, dat_shaped (by omega) x, dat_shaped (by omega) y, q _ G2 H2 (g1.trans g2) ?_⟩⟩⟩
      · rw [c.hK]; exact Dp.up g2.sub (Dat.reads (Rp.mono g2.leG r1))
      · rw [c.hK]; exact Dp.up g2.sub (Dat.reads r2)
      · show V.bl _ = V.bl _
        rw [Dat.eqv]
class AtO (α : Type) [At1 α] : Prop where
  nn : ∀ a : α, toV a ≠ .non
  inj : ∀ a b : α, toV a = toV b → a = b
  s0 : scal .non .non = true
  s1 : ∀ a : α, scal (toV a) .non = true
  s2 : ∀ a : α, scal .non (toV a) = true
  s3 : ∀ a b : α, scal (toV a) (toV b) = true
instance : AtO Int := ⟨fun _ h => V.noConfusion h, fun a b h => V.int.inj h, rfl, fun _ => rfl, fun _ => rfl, fun _ _ => rfl⟩
instance : AtO Tt := ⟨fun _ h => V.noConfusion h, fun a b h => Tt.ext' (V.str.inj h), rfl, fun _ => rfl, fun _ => rfl, fun _ _ => rfl⟩
theorem xe_r3a {δ : Type} [Rp δ] {m : Option (R3 α γ δ)} {j : Nat} {p1 : Pos} (ha : XE X Γ B ρ a m) : XE X Γ B ρ (.Subscript a (.Constant (.int 0) j p1) pos) (m.bind fun t => some t.a) := imE (pe_ix ix_list ha pe_int fun _ _ => rfl) fun σ H Q ⟨G, z, A, e, q⟩ => by
  cases m with
  | none => cases e
  | some t =>
    cases e
    refine ⟨G, t, A, rfl, fun v G1 H1 g1 ⟨p, x, y, w, h1, h2, h3, h4, h5⟩ => ?_⟩
    exact ⟨p, [x, y, w], 0, x, h1, rfl, SqL.of (g1.sub.lst h2), rfl, q x G1 H1 g1 h3⟩
theorem xe_r3b {δ : Type} [Rp δ] {m : Option (R3 α γ δ)} {j : Nat} {p1 : Pos} (ha : XE X Γ B ρ a m) : XE X Γ B ρ (.Subscript a (.Constant (.int 1) j p1) pos) (m.bind fun t => some t.b) := imE (pe_ix ix_list ha pe_int fun _ _ => rfl) fun σ H Q ⟨G, z, A, e, q⟩ => by
  cases m with
  | none => cases e
  | some t =>
    cases e
    refine ⟨G, t, A, rfl, fun v G1 H1 g1 ⟨p, x, y, w, h1, h2, h3, h4, h5⟩ => ?_⟩
    exact ⟨p, [x, y, w], 1, y, h1, rfl, SqL.of (g1.sub.lst h2), rfl, q y G1 H1 g1 h4⟩
theorem xe_r3c {δ : Type} [Rp δ] {m : Option (R3 α γ δ)} {j : Nat} {p1 : Pos} (ha : XE X Γ B ρ a m) : XE X Γ B ρ (.Subscript a (.Constant (.int 2) j p1) pos) (m.bind fun t => some t.c) := imE (pe_ix ix_list ha pe_int fun _ _ => rfl) fun σ H Q ⟨G, z, A, e, q⟩ => by
  cases m with
  | none => cases e
  | some t =>
    cases e
    refine ⟨G, t, A, rfl, fun v G1 H1 g1 ⟨p, x, y, w, h1, h2, h3, h4, h5⟩ => ?_⟩
    exact ⟨p, [x, y, w], 2, w, h1, rfl, SqL.of (g1.sub.lst h2), rfl, q w G1 H1 g1 h5⟩
theorem xe_r3 {δ : Type} [Rp δ] {c : Expr} {ma : Option α} {mb : Option γ} {mc : Option δ} (ha : XE X Γ B ρ a ma) (hb : XE X Γ B ρ b mb) (hc : XE X Γ B ρ c mc) (s1 : starEach [a, b, c] X.env = (false, eval a X.env) :: starEach [b, c] X.env := by rfl)
    (s2 : starEach [b, c] X.env = (false, eval b X.env) :: starEach [c] X.env := by rfl) (s3 : starEach [c] X.env = (false, eval c X.env) :: starEach [] X.env := by rfl) : XE X Γ B ρ (.List [a, b, c] pos) (ma.bind fun x => mb.bind fun y => mc.bind fun z => some (R3.mk x y z)) :=
  imE (pe_lst (pa_cons ha (pa_cons hb (pa_cons hc pa_nil s3) s2) s1)) fun σ H Q ⟨G, z, A, e, q⟩ => by
  cases ma with
  | none => cases e
  | some x =>
    cases mb with
    | none => cases e
    | some y =>
      cases mc with
      | none => cases e
      | some w =>
        cases e
        refine ⟨G, x, A, rfl, fun v1 G1 H1 g1 r1 => ⟨G1, y, A.grow g1, rfl, fun v2 G2 H2 g2 r2 => ⟨G2, w, A.grow (g1.trans g2), rfl, fun v3 G3 H3 g3 r3 => ⟨(by show 3 ≤ sizeLine; decide), fun p hp => ?_⟩⟩⟩⟩
        have g4 := Grow.new g3.sub hp (.lst [v1, v2, v3])
        exact q _ _ _ (((g1.trans g2).trans g3).trans g4) ⟨p, v1, v2, v3, rfl, upd_same, Rp.mono ((g2.leG.trans g3.leG).trans g4.leG) r1, Rp.mono (g3.leG.trans g4.leG) r2, Rp.mono g4.leG r3⟩
theorem xg_pair (d : Dok X Γ B N sc k fx W M) {ρ : S → Sto} {x y : Str} (i j : Nat) {n : Nat} {p1 p2 : Pos} (hi : N[i]? = some x) (hx : Loc sc x) (hj : N[j]? = some y) (hy : Loc sc y) (hρ : ∀ s, Nat.ble (i + 1) (ρ s).length = true := by intro _; rfl) (hf : fx.contains i = false := by rfl)
    (hρ2 : ∀ s, Nat.ble (j + 1) (ρ s).length = true := by intro _; rfl) (hf2 : fx.contains j = false := by rfl) : XG X Γ B (.Tuple [.Name x p1, .Name y p2] n pos) ρ (fun s (t : α × γ) => ((ρ s).set i (vl t.1)).set j (vl t.2)) :=
  imG (pg_tup d.calm (pgs_cons (pg_name (i := i) (by rw [d.hN]; exact d.nd) (by rw [d.hN]; exact hi) (by rw [d.hsc]; exact hx) (.inl (d.hfn x))) (pgs_cons (pg_name (i := j) (by rw [d.hN]; exact d.nd) (by rw [d.hN]; exact hj) (by rw [d.hsc]; exact hy) (.inl (d.hfn y))) pgs_nil))) fun v σ H Q ⟨s, t, G, A, ⟨p, u, w, h1, h2, h3, h4⟩, q⟩ => by
  refine ⟨p, [u, w], h1, SqT.of (A.sub.tup h2), rfl, u, [w], rfl, w, [], rfl, rfl, ?_⟩
  have no : ∀ n, fx.contains n = false → n ∉ B.fx := fun n hn hm => by
    rw [d.hfx] at hm
    rw [List.contains_iff_mem.mpr hm] at hn
    cases hn
  have A1 := A.setV (Nat.le_of_ble_eq_true (hρ s)) h3 (no i hf)
  exact q G H _ (.refl _) (A1.setV (by rw [List.length_set]; exact Nat.le_of_ble_eq_true (hρ2 s)) h4 (no j hf2))
def enumL {α : Type} (xs : List α) : List (Int × α) := xs.zipIdx.map fun q => ((q.2 : Int), q.1)
end
end Sim
namespace Sim
open PySem L2
open Rp (rep)
open At1 (toV)
open K1 (key)
open KT (keys)
open Ow (own)
open RpA (repA stoA)
def cF (Γ : Gm) (B : Bs) (ρ : Sto) {α S : Type} [Rp α] (m : Option (α × S)) (sto : S → Sto) : TE := fun σ H Q => ∃ G x s, At Γ B ρ G H σ ∧ m = some (x, s) ∧ ∀ v G' H', Le G G' → At Γ B (sto s) G' H' σ → rep Γ G' v x → Q v H'
abbrev XF (X : Cx) (Γ : Gm) (B : Bs) (ρ : Sto) (e : Expr) {α S : Type} [Rp α] (m : Option (α × S)) (sto : S → Sto) : Prop := PE X e (cF Γ B ρ m sto)
section
variable {X : Cx} {Γ : Gm} {B : Bs} {L β C : Type} [Rp β] {F : Kt L β C} {ρ ρ' : Sto} {N : List Str} {sc : Scope} {k : Nat} {fx : List Nat} {W : WX} {M : List Addr} {pos p p' : Pos} {e a b o tg it : Expr} {st : Stmt} {sts : List Stmt} {es : List Expr} {S : Type} {sto : S → Sto}
variable {α γ : Type} [Rp α] [Rp γ]
theorem xf_eq {m m' : Option (α × S)} (h : XF X Γ B ρ e m sto) (q : m = m') : XF X Γ B ρ e m' sto := q ▸ h
@[irreducible] def ppopAt {α : Type} (xs : List α) (i : Int) : Option (α × List α) := if 0 ≤ i ∧ xs.length ≤ BIG then (xs[i.toNat]?).bind fun y => some (y, xs.eraseIdx i.toNat) else none
theorem xf_popAt (c : Cok X Γ N sc k) {x : Str} (i : Nat) {xs : List α} {mi : Option Int} {apos cpos : Pos} (hi : ρ[i]? = some (ow (OL.mk xs))) (hN : N[i]? = some x) (hv : Vis sc x) (he : XE X Γ B ρ e mi) (hd : (x == ("__debug__" : Str)) = false := by decide) (hcd : (x == ("__classdict__" : Str)) = false := by decide)
    (hfew : ((backTo cpos (starEach [e] X.env)).all (fun x => !x.1) && (backToKw cpos (keywordEach [] X.env)).all (fun x => x.1.isSome)
      && decide ([e].length + ([] : List Keyword).length + (if ([] : List Keyword).isEmpty then 0 else 1) < 30)) = true := by rfl)
    (hline : (apos.endLine == cpos.line) = true := by rfl) (hs : starEach [e] X.env = (false, eval e X.env) :: starEach [] X.env := by rfl) :
    XF X Γ B ρ (.Call (.Attribute (.Name x p) "pop" apos) [e] [] cpos) (mi.bind fun j => ppopAt xs j) (fun ys => ρ.set i (ow (OL.mk ys))) :=
  imE (pe_bm PySem.F.plainAttrs_list PySem.F.slot_list_pop PySem.F.type_list_pop mt_popAt (pv_ c hN hv hd hcd) (pa_cons he pa_nil hs) (by rfl) hfew hline hs (by rfl)) fun σ H Q ⟨G, y, s, A, e, q⟩ => by
  cases mi with
  | none => cases e
  | some j =>
    have e : ppopAt xs j = some (y, s) := e
    unfold ppopAt at e
    by_cases hc : 0 ≤ j ∧ xs.length ≤ BIG
    · rw [if_pos hc] at e
      cases hy : xs[j.toNat]? with
      | none => rw [hy] at e; cases e
      | some y' =>
        rw [hy] at e
        cases e
        have hl : j.toNat < xs.length := (List.getElem?_eq_some_iff.mp hy).1
        obtain ⟨v, fp, h1, ⟨p, vs, rfl, h3, h4, h5⟩, h6⟩ := A.getO hi
        refine ⟨.ref p, h1, .inl ⟨rfl, vs, SqL.of h4⟩, G, j, A, rfl, fun v G1 H1 g1 r1 => ?_⟩
        obtain ⟨u, hu, ru⟩ := h5.get hy
        have hb : xs.length ≤ 1000000 := hc.2
        have hlen : vs.length = xs.length := h5.length
        have hj0 : 0 ≤ j := hc.1
        have hj1 : j < (vs.length : Int) := by omega
        have hj2 : -(2 ^ 63) ≤ j := by omega
        have hj3 : j < 2 ^ 63 := by omega
        refine ⟨p, vs, j, j.toNat, u, rfl, by rw [rep1 r1]; rfl, g1.leH _ _ h4, hj2, hj3, PySem.StrLaws.seqIndex_nonneg hj0 hj1, hu, ?_⟩
        exact q u G1 _ g1.leG ((A.grow g1).setL hi h1 ((h5.mono g1.leG).erase j.toNat)) (Rp.mono g1.leG ru)
    · rw [if_neg hc] at e; cases e
def ppop {α : Type} (xs : List α) : Option (α × List α) := (xs[xs.length - 1]?).bind fun y => some (y, xs.dropLast)
theorem xp_appF (d : Dok X Γ B N sc k fx W M) {m : Option (α × S)} {x : Str} (i : Nat) {xs0 : List α} {us : S → List α} {apos cpos : Pos} (he : XF X Γ B ρ e m sto) (hi0 : ρ[i]? = some (ow (OL.mk xs0))) (hi : ∀ s, (sto s)[i]? = some (ow (OL.mk (us s)))) (hN : N[i]? = some x) (hv : Vis sc x) (hd : (x == ("__debug__" : Str)) = false := by decide) (hcd : (x == ("__classdict__" : Str)) = false := by decide)
    (hfew : ((backTo cpos (starEach [e] X.env)).all (fun x => !x.1) && (backToKw cpos (keywordEach [] X.env)).all (fun x => x.1.isSome)
      && decide ([e].length + ([] : List Keyword).length + (if ([] : List Keyword).isEmpty then 0 else 1) < 30)) = true := by rfl)
    (hline : (apos.endLine == cpos.line) = true := by rfl) (hs : starEach [e] X.env = (false, eval e X.env) :: starEach [] X.env := by rfl) (hw : swapsWith (.Call (.Attribute (.Name x p) "append" apos) [e] [] cpos) none pos.line X.env = pure false := by rfl) :
    XP1 X Γ B ρ (.Expr (.Call (.Attribute (.Name x p) "append" apos) [e] [] cpos) pos) (m.bind fun q => (push (us q.2) q.1).bind fun ys => some (q.2, ys)) (fun q => (sto q.1).set i (ow (OL.mk q.2))) :=
  imS (ps_expr (pe_bm PySem.F.plainAttrs_list PySem.F.slot_list_append PySem.F.type_list_append mt_append (pv_ d.toCok hN hv hd hcd) (pa_cons he pa_nil hs) (by rfl) hfew hline hs (by rfl)) hw) fun D σ H ⟨G, s, A, e, q⟩ => by
  cases m with
  | none => cases e
  | some y =>
    have e : ((push (us y.2) y.1).bind fun ys => some (y.2, ys)) = some s := e
    cases hp : push (us y.2) y.1 with
    | none => rw [hp] at e; cases e
    | some ys =>
      rw [hp] at e
      cases e
      obtain ⟨hl, e⟩ := ite_some (by have qq : (push (us y.2) y.1) = some ys := hp; unfold push at qq; exact qq)
      subst e
      obtain ⟨v, fp, h1, ⟨p, vs, rfl, h3, h4, h5⟩, h6⟩ := A.getO hi0
      refine ⟨.ref p, h1, .inl ⟨rfl, vs, SqL.of h4⟩, G, y.1, y.2, A, rfl, fun v G1 H1 l1 A1 r1 => ?_⟩
      obtain ⟨w, fp1, k1, ⟨p1, vs1, e1, k3, k4, k5⟩, k6⟩ := A1.getO (hi y.2)
      rw [h1] at k1
      cases k1
      cases e1
      refine ⟨p, vs1, v, rfl, rfl, k4, by rw [show vs1.length = (us y.2).length from k5.length]; exact big_lt (by omega), ?_⟩
      exact q G1 _ σ (A1.setL (hi y.2) h1 (k5.append (.cons r1 .nil)))
theorem xp_setF (d : Dok X Γ B N sc k fx W M) {m : Option (α × S)} {x : Str} (i : Nat) (he : XF X Γ B ρ e m sto) (hi : N[i]? = some x) (hx : Loc sc x) (hρ : ∀ s, Nat.ble (i + 1) (sto s).length = true := by intro _; rfl) (hf : fx.contains i = false := by rfl) (hs : swapsWith e (some (.Name x p')) pos.line X.env = pure false := by rfl) :
    XP1 X Γ B ρ (.Assign [.Name x p'] e pos) m (fun q => (sto q.2).set i (vl q.1)) := imS (ps_set (i := i) (by rw [d.hN]; exact d.nd) (by rw [d.hN]; exact hi) (by rw [d.hsc]; exact hx) he hs (.inl (d.hfn x))) fun D σ H ⟨G, s, A, e, q⟩ =>
  ⟨G, s.1, s.2, A, e, fun v G1 H1 l1 A1 r1 => q G1 _ _ (A1.setV (Nat.le_of_ble_eq_true (hρ s.2)) r1 fun hm => by
    rw [d.hfx] at hm
    rw [List.contains_iff_mem.mpr hm] at hf
    cases hf)⟩
end
end Sim
namespace Sim
open PySem L2
open Rp (rep)
open At1 (toV)
open K1 (key)
open KT (keys)
open Ow (own)
open RpA (repA stoA)
theorem At.openO {Γ : Gm} {B : Bs} {ρ : Sto} {G H : Hp} {σ : St} {α : Type} {I : Ow α} {a : α} {i : Nat} (A : At Γ B ρ G H σ) (h : ρ[i]? = some (.own α I a)) : ∃ v fp, σ[i]? = some (some v) ∧ I.own Γ G H v fp a ∧ (∀ x ∈ fp, G x = none) ∧
    ∀ (β : Type) (J : Ow β) (b : β) (G' H' : Hp) (fp' : List Addr), Le G G' → Sub G' H' → (∀ x, H x ≠ none → G x = none → Th (H x) (G' x)) → (∀ x o, x ∉ fp → H x = some o → H' x = some o) → (∀ x ∈ fp, H' x ≠ none) → (∀ x ∈ fp', x ∈ fp ∨ (H x = none ∧ G' x = none)) → J.own Γ G' H' v fp' b →
      At Γ B (ρ.set i (.own β J b)) G' H' σ := by
  obtain ⟨φ, h1, h3⟩ := A.slots
  have hi : i < ρ.length := (List.getElem?_eq_some_iff.mp h).1
  obtain ⟨o, e1, v, e2, ow⟩ := h1.ok i _ h
  have e1 : σ[i]? = some (some v) := by rw [e1, e2]
  refine ⟨v, φ i, e1, ow, fun x hx => (h3 i x hx).1, fun β J b G' H' fp' leG sub thin keep live hfp own' => ?_⟩
  have hs : i < σ.length := by rw [h1.len]; exact hi
  have eσ : σ.set i (some v) = σ := by
    have := List.getElem?_eq_getElem hs
    rw [this] at e1
    rw [← Option.some.inj e1]; simp
  have thr : ∀ x, H x ≠ none → H' x ≠ none := fun x hx => by
    by_cases hm : x ∈ φ i
    · exact live x hm
    · cases q : H x with
      | none => exact absurd q hx
      | some u => rw [keep x u hm q]; simp
  have hfp2 : ∀ j x, j ≠ i → x ∈ fp' → x ∉ φ j := fun j x hj hx hm => by
    rcases hfp x hx with q | ⟨q, _⟩
    · exact hj (h1.apart j i x hm q)
    · exact h1.there j x hm q
  refine ⟨sub, A.le.trans leG, fun x u hx e => ?_, fun x hx => thr x (A.live x hx), A.thinT thin, ⟨setφ φ i fp', ?_, fun j x hx => ?_⟩, A.fix⟩
  · have hm : x ∉ φ i := fun hm => by
      rcases (h3 i x hm).2 with w | w
      · rw [w] at e; cases e
      · exact hx w
    exact keep x u hm (A.keep x u hx e)
  · refine ⟨by simp [h1.len], fun j s hj => ?_, fun j k x hx hy => ?_, fun j hj => ?_⟩
    · by_cases z : j = i
      · subst z
        rw [List.getElem?_set_self hi] at hj
        cases hj
        exact ⟨some v, e1, v, rfl, by rw [setφ_same]; exact own'⟩
      · rw [List.getElem?_set_ne (Ne.symm z)] at hj
        obtain ⟨o', q1, q2⟩ := h1.ok j s hj
        refine ⟨o', q1, ?_⟩
        rw [setφ_ne z]
        exact q2.grow leG fun x hx u e => keep x u (fun hm => z (h1.apart j i x hx hm)) e
    · rcases mem_setφ hx with ⟨e, hx⟩ | ⟨e, hx⟩ <;> rcases mem_setφ hy with ⟨e', hy⟩ | ⟨e', hy⟩
      · rw [e, e']
      · exact absurd hy (hfp2 k x e' hx)
      · exact absurd hx (hfp2 j x e hy)
      · exact h1.apart j k x hx hy
    · have z : j ≠ i := by
        intro z
        rw [List.length_set, z] at hj
        omega
      rw [setφ_ne z]
      exact h1.out j (by simpa using hj)
  · rcases mem_setφ hx with ⟨_, q⟩ | ⟨hj, q⟩
    · rcases hfp x q with w | ⟨w1, w2⟩
      · refine ⟨(thin x ?_ (h3 i x w).1).none (h1.nt i x w), (h3 i x w).2⟩
        exact h1.there i x w
      · refine ⟨w2, .inl ?_⟩
        cases z : B.H x with
        | none => rfl
        | some u => exact absurd w1 (A.live x (some_ne z))
    · exact ⟨(thin x (h1.there j x q) (h3 j x q).1).none (h1.nt j x q), (h3 j x q).2⟩
end Sim
namespace LR
open PySem PySem.Spec PyProof.Rows RT
section
variable {prog : Program} {w : World} {A : Around} {E : Value → Shared → Prop} {s : Shared}
end
end LR
namespace Sim
open PySem PySem.Spec PyProof.Rows L2 RT
open Rp (rep)
open At1 (toV)
def tListRev (K : PySem.W.Frag) (te : TE) : TE := fun σ H Q => te σ H fun v H1 => ∃ (a : Addr) (xs : List V), v = .ref a ∧ SqL K H1 a xs ∧ ∀ q, H1 q = none → Q (.ref q) (upd H1 q (.lst xs.reverse))
section
open K1 (key)
variable {X : Cx} {Γ : Gm} {B : Bs} {ρ : Sto} {N : List Str} {sc : Scope} {k : Nat} {pos p p2 pos2 : Pos} {e a b tg it elt kx : Expr}
variable {α γ : Type} [Rp α] [Rp γ]
end
end Sim
namespace Sim
open PySem L2
open Rp (rep)
open At1 (toV)
open K1 (key)
open KT (keys)
open Ow (own)
open RpA (repA stoA)
class TyN (α : Type) [Rp α] (n : outParam String) : Prop where
  ty : ∀ {Γ : Gm} {G H : Hp} {v : V} {a : α} {K : PySem.W.Frag}, rep Γ G v a → Sub G H → TyOf K H v (.type n)
instance : TyN Int "int" := ⟨fun h _ => by rw [rep1 h]; exact .int _⟩
instance : TyN Bool "bool" := ⟨fun h _ => by rw [rep1 h]; exact .bl _⟩
instance : TyN Tt "str" := ⟨fun h _ => by rw [rep1 h]; exact .str _⟩
instance {α : Type} [Rp α] : TyN (List α) "list" := ⟨fun ⟨a, vs, h1, h2, h3⟩ s => by rw [h1]; exact .lst (s _ _ h2)⟩
instance {α β : Type} [Rp α] [Rp β] : TyN (α × β) "tuple" := ⟨fun ⟨a, x, y, h1, h2, h3⟩ s => by rw [h1]; exact .tup (s _ _ h2)⟩
instance {α β γ : Type} [Rp α] [Rp β] [Rp γ] : TyN (T3 α β γ) "tuple" := ⟨fun ⟨a, x, y, z, h1, h2, h3⟩ s => by rw [h1]; exact .tup (s _ _ h2)⟩
section
variable {X : Cx} {Γ : Gm} {B : Bs} {L β C : Type} [Rp β] {F : Kt L β C} {ρ ρ' : Sto} {N : List Str} {sc : Scope} {k : Nat} {fx : List Nat} {W : WX} {M : List Addr} {pos p p' p2 : Pos} {e a b o tg it elt kx : Expr} {st : Stmt} {sts : List Stmt} {es : List Expr} {S : Type} {sto : S → Sto}
variable {α γ : Type} [Rp α] [Rp γ]
theorem xe_isi (c : Cok X Γ N sc k) {n T : String} [TyN α n] {x : Str} {r : Bool} {m : Option α} (he : XE X Γ B ρ e m) (hg : Glb sc "isinstance") (hm : Γ.mg "isinstance" = none) (hg2 : Glb sc x) (hm2 : Γ.mg x = none) (hv : bootBuiltins x = some (.type T)) (hr : kitB n T = some r) (hn : x ≠ "__name__" := by decide) (hdb : (x == ("__debug__" : Str)) = false := by decide)
    (s1 : starEach [e, .Name x p2] X.env = (false, eval e X.env) :: starEach [.Name x p2] X.env := by rfl) (s2 : starEach [.Name x p2] X.env = (false, eval (.Name x p2) X.env) :: starEach [] X.env := by rfl) (hpl : (backTo pos (starEach [.Name x p2] X.env)).any (·.1) = false := by rfl) :
    XE X Γ B ρ (.Call (.Name "isinstance" p) [e, .Name x p2] [] pos) (m.bind fun _ => some r) :=
  imE (pe_callB call_isi (c.gl hg) (by rw [c.hmg]; exact hm) PyProof.Rows.boot_isinstance (pa_cons he (pa_cons (pe_bltn (c.gl hg2) (by rw [c.hmg]; exact hm2) hv (show RelV (.ty T) (.type T) from rfl) hn hdb) pa_nil s2) s1) (he := s1) (hpl := hpl)) fun σ H Q ⟨G, z, A, e, q⟩ => by
  cases m with
  | none => cases e
  | some w =>
    cases e
    exact ⟨G, w, A, rfl, fun v G1 H1 g1 r1 => ⟨v, .ty T, .type n, .type T, r, rfl, .ty T, .base (TyN.ty r1 g1.sub), kit_ty hr, q _ G1 H1 g1 rfl⟩⟩
@[irreducible] def pindex {α : Type} [DecidableEq α] (xs : List α) (x : α) : Option Int := if x ∈ xs then some ((xs.findIdx fun y => decide (y = x) : Nat) : Int) else none
end
end Sim
namespace Sim
open PySem L2
open Rp (rep)
open At1 (toV)
open K1 (key)
open KT (keys)
open Ow (own)
open RpA (repA stoA)
def cKN (Γ : Gm) (B : Bs) (ρ : Sto) {κ α : Type} [K1 κ] [Rp α] (m : Option (List (κ × α))) : TE := fun σ H Q => ∃ G xs, At Γ B ρ G H σ ∧ m = some xs ∧ ∀ p vs G1 H1, Grow G H G1 H1 → H1 p = none → RpK Γ G1 vs xs → Q (.ref p) (upd H1 p (.dK vs))
abbrev XKN (X : Cx) (Γ : Gm) (B : Bs) (ρ : Sto) (e : Expr) {κ α : Type} [K1 κ] [Rp α] (m : Option (List (κ × α))) : Prop := PE X e (cKN Γ B ρ m)
def dcM {α κ γ : Type} [DecidableEq κ] (t : α → Option Bool) (fk : α → Option κ) (fv : α → Option γ) : List (κ × γ) → List α → Option (List (κ × γ))
  | d, [] => some d
  | d, x :: r => (t x).bind fun b => if b = true then (fk x).bind fun y => (fv x).bind fun z => dcM t fk fv (put d y z) r else dcM t fk fv d r
@[irreducible] def dcB {α κ γ : Type} [DecidableEq κ] (t : α → Option Bool) (fk : α → Option κ) (fv : α → Option γ) (xs : List α) : Option (List (κ × γ)) := if xs.length ≤ BIG then dcM t fk fv [] xs else none
section
variable {X : Cx} {Γ : Gm} {B : Bs} {L β C : Type} [Rp β] {F : Kt L β C} {ρ ρ' : Sto} {N : List Str} {sc : Scope} {k : Nat} {fx : List Nat} {W : WX} {M : List Addr} {pos p p' p2 : Pos} {e a b o tg it elt kx vx : Expr} {st : Stmt} {sts : List Stmt} {es : List Expr} {S : Type} {sto : S → Sto}
variable {α γ κ : Type} [Rp α] [Rp γ] [K1 κ] [At1 κ] [KAt κ] [DecidableEq κ]
end
end Sim
namespace Sim
open PySem PySem.Spec PyProof.Rows L2
open Rp (rep)
open At1 (toV)
open K1 (key)
open KT (keys)
open Ow (own)
open RpA (repA stoA)
section
variable {X : Cx} {Γ : Gm} {B : Bs} {L β C : Type} [Rp β] {F : Kt L β C} {ρ ρ' : Sto} {N : List Str} {sc : Scope} {k : Nat} {fx : List Nat} {W : WX} {M : List Addr} {pos p p' p2 : Pos} {e a b o tg it elt kx vx : Expr} {st : Stmt} {sts : List Stmt} {es : List Expr} {S : Type} {sto : S → Sto}
variable {α γ κ : Type} [Rp α] [Rp γ] [K1 κ] [At1 κ] [KAt κ] [DecidableEq κ]
end
end Sim
namespace Sim
open PySem L2
open Rp (rep)
open At1 (toV)
open K1 (key)
open KT (keys)
open Ow (own)
open RpA (repA stoA)
structure ON where
  l : List (Int × List Int)
inductive Near (H : Hp) : List (Key × V) → List Addr → List (Int × List Int) → Prop
  | nil : Near H [] [] []
  | cons {n : Int} {xs : List Int} {p : Addr} {kvs : List (Key × V)} {as : List Addr} {l : List (Int × List Int)} : H p = some (.lst (xs.map V.int)) → Near H kvs as l → Near H ((Sum.inl n, .ref p) :: kvs) (p :: as) ((n, xs) :: l)
theorem Near.stay {H H' : Hp} {kvs : List (Key × V)} {as : List Addr} {l : List (Int × List Int)} (h : Near H kvs as l) (k : ∀ x ∈ as, ∀ o, H x = some o → H' x = some o) : Near H' kvs as l := by
  induction h with
  | nil => exact .nil
  | cons e t ih => exact .cons (k _ List.mem_cons_self _ e) (ih fun x hx => k x (List.mem_cons_of_mem _ hx))
theorem Near.there {H : Hp} {kvs : List (Key × V)} {as : List Addr} {l : List (Int × List Int)} (h : Near H kvs as l) : ∀ x ∈ as, ∃ xs : List V, H x = some (.lst xs) := by
  induction h with
  | nil => exact fun x hx => by simp at hx
  | cons e t ih =>
    intro x hx
    rcases List.mem_cons.mp hx with z | z
    · rw [z]; exact ⟨_, e⟩
    · exact ih x z
theorem Near.len {H : Hp} {kvs : List (Key × V)} {as : List Addr} {l : List (Int × List Int)} (h : Near H kvs as l) : kvs.length = l.length := by
  induction h with
  | nil => rfl
  | cons e t ih => simp [ih]
theorem Near.rp {Γ : Gm} {G H : Hp} {kvs : List (Key × V)} {as : List Addr} {l : List (Int × List Int)} (h : Near H kvs as l) (k : ∀ x ∈ as, ∀ o, H x = some o → G x = some o) : RpK Γ G kvs l := by
  induction h with
  | nil => exact .nil
  | cons e t ih => exact .cons ⟨rfl, _, _, rfl, k _ List.mem_cons_self _ e, RpL.ofV (α := Int) _⟩ (ih fun x hx => k x (List.mem_cons_of_mem _ hx))
theorem Near.snoc {H : Hp} {kvs : List (Key × V)} {as : List Addr} {l : List (Int × List Int)} {n : Int} {xs : List Int} {p : Addr} (h : Near H kvs as l) (e : H p = some (.lst (xs.map V.int))) : Near H (kvs ++ [(Sum.inl n, .ref p)]) (as ++ [p]) (l ++ [(n, xs)]) := by
  induction h with
  | nil => exact .cons e .nil
  | cons e' t ih => exact .cons e' ih
instance instOwON : Ow ON where
  own := fun Γ G H v fp d => ∃ a kvs as, v = .ref a ∧ fp = a :: as ∧ H a = some (.dK kvs) ∧ Near H kvs as d.l ∧ as.Nodup ∧ (d.l.map fun q : Int × List Int => q.1).Nodup
  stay := fun ⟨a, kvs, as, h1, h2, h3, h4, h5, h6⟩ e k => ⟨a, kvs, as, h1, h2, k a (by rw [h2]; exact List.mem_cons_self) _ h3, h4.stay fun x hx => k x (by rw [h2]; exact List.mem_cons_of_mem _ hx), h5, h6⟩
  there := fun ⟨a, kvs, as, h1, h2, h3, h4, h5, h6⟩ x hx => by
    rw [h2] at hx
    rcases List.mem_cons.mp hx with z | z
    · rw [z]; exact some_ne h3
    · obtain ⟨xs, e⟩ := h4.there x z
      exact some_ne e
  nt := fun ⟨a, kvs, as, h1, h2, h3, h4, h5, h6⟩ x hx ws e => by
    rw [h2] at hx
    rcases List.mem_cons.mp hx with z | z
    · rw [z, h3] at e; cases e
    · obtain ⟨xs, e2⟩ := h4.there x z
      rw [e2] at e; cases e
  F := DK Int (List Int)
  iF := instRpDK
  toF := fun x => ⟨x.l⟩
  canF := true
  fz := fun _ Γ G H v fp d ob ⟨a, kvs, as, h1, h2, h3, h4, h5, h6⟩ le => by
    have fr : ∀ x ∈ fp, frzd G (lkd H fp ob) fp x = lkd H fp ob x := fun x hx => if_pos hx
    refine ⟨a, kvs, ob a, h1, ?_, h4.rp fun x hx o e => ?_⟩
    · rw [fr a (by rw [h2]; exact List.mem_cons_self)]
      exact lkd_d (by rw [h2]; exact List.mem_cons_self) h3 trivial
    · have hm : x ∈ fp := by rw [h2]; exact List.mem_cons_of_mem _ hx
      rw [fr x hm]
      obtain ⟨xs, e2⟩ := h4.there x hx
      rw [e2] at e
      cases e
      exact lkd_nd e2 fun q => q
def nearApp (l : List (Int × List Int)) (k v : Int) : Option (List (Int × List Int)) := (look l k).bind fun row => (push row v).bind fun row' => some (put l k row')
theorem Near.get {H : Hp} {kvs : List (Key × V)} {as : List Addr} {l : List (Int × List Int)} (h : Near H kvs as l) {k : Int} {row : List Int} (e : look l k = some row) (nd : as.Nodup) (nk : (l.map fun q : Int × List Int => q.1).Nodup) : ∃ p, p ∈ as ∧ valV kvs (Sum.inl k) = some (.ref p) ∧ H p = some (.lst (row.map V.int)) ∧
    ∀ (H' : Hp) (ys : List Int), H' p = some (.lst (ys.map V.int)) → (∀ x ∈ as, x ≠ p → ∀ o, H x = some o → H' x = some o) → Near H' kvs as (l.map fun kv => if kv.1 = k then (kv.1, ys) else kv) := by
  induction h with
  | nil => cases e
  | @cons n xs p kvs as l e0 t ih =>
    have nd1 := List.nodup_cons.mp nd
    have nk1 : n ∉ l.map (fun q : Int × List Int => q.1) ∧ (l.map fun q : Int × List Int => q.1).Nodup := List.nodup_cons.mp nk
    by_cases hk : n = k
    · subst hk
      rw [look_pos rfl] at e
      cases e
      refine ⟨p, List.mem_cons_self, valV_pos rfl, e0, fun H' ys h1 h2 => ?_⟩
      rw [List.map_cons, if_pos rfl]
      have hm : (l.map fun kv => if kv.1 = n then (kv.1, ys) else kv) = l := by
        have : (l.map fun kv => if kv.1 = n then (kv.1, ys) else kv) = l.map id := by
          apply List.map_congr_left
          intro q hq
          have hne : ¬ q.1 = n := fun z => nk1.1 (by rw [← z]; exact List.mem_map.mpr ⟨q, hq, rfl⟩)
          rw [if_neg hne]; rfl
        rw [this, List.map_id]
      rw [hm]
      exact .cons h1 (t.stay fun x hx => h2 x (List.mem_cons_of_mem _ hx) (fun z => nd1.1 (z ▸ hx)))
    · rw [look_neg hk] at e
      obtain ⟨q, hq, h1, h2, h3⟩ := ih e nd1.2 nk1.2
      have hpq : p ≠ q := fun z => nd1.1 (z ▸ hq)
      refine ⟨q, List.mem_cons_of_mem _ hq, ?_, h2, fun H' ys k1 k2 => ?_⟩
      · rw [valV_neg]
        · exact h1
        · exact fun z => hk (Sum.inl.inj z)
      · rw [List.map_cons, if_neg hk]
        exact .cons (k2 p List.mem_cons_self hpq _ e0) (h3 H' ys k1 fun x hx => k2 x (List.mem_cons_of_mem _ hx))
section
variable {X : Cx} {Γ : Gm} {B : Bs} {ρ ρ' : Sto} {N : List Str} {sc : Scope} {k : Nat} {fx : List Nat} {W : WX} {M : List Addr} {pos p p' p2 : Pos} {e a b o tg it elt kx vx : Expr}
def nearM (t : Int → Option Bool) : List (Int × List Int) → List Int → Option (List (Int × List Int))
  | d, [] => some d
  | d, x :: r => (t x).bind fun b => if b = true then (if isIn x (d.map fun q : Int × List Int => q.1) = true then none else nearM t (d ++ [(x, [])]) r) else nearM t d r
@[irreducible] def nearB (t : Int → Option Bool) (xs : List Int) : Option (List (Int × List Int)) := if xs.length ≤ BIG then nearM t [] xs else none
end
end Sim
namespace Sim
open PySem L2
open Rp (rep)
open At1 (toV)
open K1 (key)
open KT (keys)
open Ow (own)
open RpA (repA stoA)
class Flat (α : Type) [Rp α] : Prop where
  flat : ∀ {Γ : Gm} {G G' : Hp} {v : V} {a : α}, rep Γ G v a → rep Γ G' v a
instance {α : Type} [At1 α] : Flat α := ⟨fun h => h⟩
instance {α : Type} [Rp α] [Flat α] : Flat (Option α) := ⟨fun {Γ G G' v a} h => by
  cases a with
  | none => exact h
  | some x => exact ⟨h.1, Flat.flat h.2⟩⟩
theorem RpL.flat {Γ : Gm} {α : Type} [Rp α] [Flat α] {G G' : Hp} {vs : List V} {xs : List α} (h : RpL Γ G vs xs) : RpL Γ G' vs xs := Paired.mapP h fun _ _ r => Flat.flat r
theorem RpK.flat {Γ : Gm} {κ α : Type} [K1 κ] [Rp α] [Flat α] {G G' : Hp} {vs : List (Key × V)} {xs : List (κ × α)} (h : RpK Γ G vs xs) : RpK Γ G' vs xs := Paired.mapP h fun _ _ r => ⟨r.1, Flat.flat r.2⟩
structure ExT (Γ : Gm) (x : Str) (n : Nat) : Prop where
  g : Γ.mg x = some (.ref (Γ.C n))
  kp : PySem.W.keepIn Γ.K (.ref (Γ.C n)) = true
  ex : PySem.W.excIn Γ.K (Γ.C n) [.type "ValueError", .type "Exception", .type "BaseException", .type "object"] "ValueError.__new__" = true
  sub : PySem.W.subIn Γ.K (.ref (Γ.C n)) (.type "BaseException") = some true
  ty : PySem.W.typeIn Γ.K (.ref (Γ.C n)) = some (.type "type")
def cX (Γ : Gm) (B : Bs) {L β C : Type} [Rp β] (F : Kt L β C) (ρ : Sto) {α S : Type} [Rp α] (m : Option (Except (Er × C) (α × S))) (sto : S → Sto) : TE := fun σ H Q => ∃ G r, At Γ B ρ G H σ ∧ m = some r ∧ match r with
  | .ok q => ∀ v G' H', Le G G' → At Γ B (sto q.2) G' H' σ → rep Γ G' v q.1 → Q v H'
  | .error q => ∀ cls d G' H', At Γ B (F.str q.2) G' H' σ → IsEr Γ q.1 cls d H' → F.W cls d σ H'
abbrev XX (X : Cx) (Γ : Gm) (B : Bs) {L β C : Type} [Rp β] (F : Kt L β C) (ρ : Sto) (e : Expr) {α S : Type} [Rp α] (m : Option (Except (Er × C) (α × S))) (sto : S → Sto) : Prop := PE X e (cX Γ B F ρ m sto)
theorem opAt_drop : ∀ (ops : List Nat) (n : Nat) (s : Slot), opAt (ops.map fun i => (i, false)) n s = .dead ∨ opAt (ops.map fun i => (i, false)) n s = s
  | [], n, s => .inr rfl
  | i :: r, n, s => by
    rw [List.map_cons]
    unfold opAt
    by_cases h : Nat.beq i n = true
    · rw [if_pos h]
      left
      cases s <;> rfl
    · rw [if_neg h]; exact opAt_drop r n s
theorem At.dropN {Γ : Gm} {B : Bs} {G H : Hp} {σ : St} (ops : List Nat) : ∀ (n : Nat) {ρ : Sto}, n ≤ ρ.length → At Γ B ρ G H σ → At Γ B (wksN ρ (ops.map fun i => (i, false)) n) G H σ
  | 0, ρ, _, A => by rw [wksN_zero]; exact A
  | n + 1, ρ, hn, A => by
    have h : ρ[n]? = some ρ[n] := List.getElem?_eq_getElem (by omega)
    obtain ⟨h1, h2⟩ := wksN_succ ρ (ops.map fun i => (i, false)) h
    rw [h1]
    have A1 := At.dropN ops n (by omega) A
    rcases opAt_drop ops n ρ[n] with z | z
    · rw [z]; exact A1.drop
    · rw [z]
      have e : (wksN ρ (ops.map fun i => (i, false)) n).set n ρ[n] = wksN ρ (ops.map fun i => (i, false)) n := by
        obtain ⟨hi, e⟩ := List.getElem?_eq_some_iff.mp h2
        rw [← e]; simp
      rw [e]; exact A1
theorem At.drops {Γ : Gm} {B : Bs} {G H : Hp} {σ : St} (ops : List Nat) {ρ : Sto} (A : At Γ B ρ G H σ) : At Γ B (Sim.wks ρ (ops.map fun i => (i, false))) G H σ := by
  have := At.dropN ops ρ.length (Nat.le_refl _) A
  rw [wksN_all] at this
  exact this
section
variable {X : Cx} {Γ : Gm} {B : Bs} {L β C : Type} [Rp β] {F : Kt L β C} {ρ ρ' : Sto} {N : List Str} {sc : Scope} {k : Nat} {fx : List Nat} {W : WX} {M : List Addr} {pos p p' p2 : Pos} {e a b o tg it elt kx vx : Expr} {es : List Expr} {S : Type} {sto : S → Sto}
variable {α γ κ : Type} [Rp α] [Rp γ] [K1 κ]
theorem xx_eq {m m' : Option (Except (Er × C) (α × S))} (h : XX X Γ B F ρ e m sto) (q : m = m') : XX X Γ B F ρ e m' sto := q ▸ h
theorem xb_raise (d : Dok X Γ B N sc k fx W M) {x : Str} {n : Nat} {m : Option α} {c : C} (hx : ExT Γ x n) (hn : n ≠ 9) (hg : Glb sc x) (he : XE X Γ B ρ e m) (ops : List Nat) (hw : Sim.wks ρ (ops.map fun i => (i, false)) = F.str c) (hW : F.W = W := by rfl) (s1 : starEach [e] X.env = (false, eval e X.env) :: starEach [] X.env := by rfl) (hdb : (x == ("__debug__" : Str)) = false := by decide) :
    XB1 X Γ B F ρ (.Raise (some (.Call (.Name x p) [e] [] p2)) none pos) (S := S) (m.bind fun _ => some (.err ⟨n, 0⟩ c)) sto :=
  imS (L2N.ps_raise d.calm d.tk (L2N.pmk_own1 PySem.F.excBase_ValueError (by rw [d.hK]; exact hx.ex) (by rw [d.hmg]; exact hx.g) (by rw [d.hK]; exact hx.kp) (raises_own (by rw [d.hK]; exact hx.sub) (by rw [d.hK]; exact hx.ty)) (d.gl hg) he s1 hdb)) fun D σ H ⟨G, s, A, e, q⟩ => by
  cases m with
  | none => cases e
  | some y =>
    cases e
    refine ⟨G, y, A, rfl, fun v G1 H1 g1 r1 => ?_⟩
    have A2 := At.drops ops (A.grow g1)
    rw [hw] at A2
    show W _ none σ H1
    rw [← hW]
    refine q _ none G1 H1 σ A2 ⟨rfl, ?_⟩
    rw [if_neg hn]
def exR {β C : Type} (c : C) : Except Er β → Except (Er × C) (β × Unit)
  | .ok b => .ok (b, ())
  | .error e => .error (e, c)
def exDo {α S L β C : Type} : Except (Er × C) (α × S) → Fl S L β C
  | .ok q => .nx q.2
  | .error q => .err q.1 q.2
def exSet {α S L β C : Type} : Except (Er × C) (α × S) → Fl (α × S) L β C
  | .ok q => .nx q
  | .error q => .err q.1 q.2
def exRet {α S T L C : Type} (c : C) : Except (Er × C) (α × S) → Fl T L α C
  | .ok q => .ret q.1 c
  | .error q => .err q.1 q.2
theorem xb_doX {m : Option (Except (Er × C) (α × S))} (he : XX X Γ B F ρ e m sto) (hw : swapsWith e none pos.line X.env = pure false := by rfl) : XB1 X Γ B F ρ (.Expr e pos) (m.bind fun r => some (exDo r)) sto := imS (ps_expr he hw) fun D σ H ⟨G, s, A, e, q⟩ => by
  cases m with
  | none => cases e
  | some r =>
    cases e
    refine ⟨G, r, A, rfl, ?_⟩
    cases r with
    | ok y => exact fun v G1 H1 l1 A1 r1 => q G1 H1 σ A1
    | error y => exact fun cls d G1 H1 A1 ie => q cls d G1 H1 σ A1 ie
end
end Sim
namespace Sim
open PySem L2
open Rp (rep)
open RpA (repA stoA)
section
variable {Γ : Gm} {x : Str} {st : Stmt} {N ps : List Str} {j k : Nat} {τ β : Type} [RpA τ] [Rp β] {fr : Bool}
theorem Cal.mono {f : τ → Option β} (h : Cal Γ x j fr f) (hk : j ≤ k) : Cal Γ x k fr f := by
  obtain ⟨a, fd, ps, F, h1, h2, h3⟩ := h.ex
  exact ⟨a, fd, ps, F.mono hk, h1, h2, h3⟩
theorem CalE.mono {f : τ → Option (Except Er β)} (h : CalE Γ x j fr f) (hk : j ≤ k) : CalE Γ x k fr f := by
  obtain ⟨a, fd, ps, F, h1, h2, h3⟩ := h.ex
  exact ⟨a, fd, ps, F.mono hk, h1, h2, h3⟩
end
end Sim
namespace Sim
open PySem PySem.Spec PyProof.Rows L2
open Rp (rep)
open At1 (toV)
open K1 (key)
open KT (keys)
open Ow (own)
open Dat (toD)
open RpA (repA stoA)
instance : Dat (Option Int) := ⟨fun o => match o with | none => .none | some i => .int i, 0, fun {Γ G v a} h => by
    cases a with
    | none => rw [show v = .non from h]; exact .non
    | some i => rw [rep1 h.2]; exact .int _, fun a => by cases a <;> simp [PyData.canLay0], fun a => by cases a <;> simp [PyData.depth], fun a b => by
    cases a <;> cases b <;> simp [PyData.eqv, Bool.beq_eq_decide_eq]⟩
section
variable {X : Cx} {Γ : Gm} {B : Bs} {L β C : Type} [Rp β] {F : Kt L β C} {ρ ρ' : Sto} {N : List Str} {sc : Scope} {k : Nat} {fx : List Nat} {W : WX} {M : List Addr} {pos p p' p2 : Pos} {e a b o tg it elt kx : Expr} {st : Stmt} {sts : List Stmt} {es : List Expr} {S : Type} {sto : S → Sto}
variable {α γ : Type} [Rp α] [Rp γ]
def rCountD (K : PySem.W.Frag) : V → List V → Hp → VK → Prop := fun x xs H Q => ∃ (a : Addr) (y : V) (d : PyData) (ds : List PyData), x = V.ref a ∧ xs = [y] ∧ Dp K H (V.ref a) (.list ds) ∧ Dp K H y d ∧
  SeqAt.shaped (.list ds) = true ∧ SeqAt.shaped d = true ∧ Q (.int ((ds.countP fun z => PyData.eqv z d : Nat) : Int)) H
end
structure GrowX (p : Addr) (G H G' H' : Hp) : Prop where
  leG : Le G G'
  keep : ∀ a o, a ≠ p → H a = some o → H' a = some o
  live : ∀ a, H a ≠ none → H' a ≠ none
  sub : Sub G' H'
  thin : ∀ a, H a ≠ none → G a = none → Th (H a) (G' a)
def specI (Γ : Gm) {τ β Z δ : Type} [RpA τ] [Rp β] [I : Ow δ] (mk : Z → δ) (f : τ → Z → Option (β × Z)) : Sp := fun vs H Q _ => ∃ G t z b z' ws p, Sub G H ∧ vs = ws ++ [.ref p] ∧ repA Γ G ws t ∧ G p = none ∧ own Γ G H (.ref p) [p] (mk z) ∧ f t z = some (b, z') ∧
  ∀ v G' H', GrowX p G H G' H' → rep Γ G' v b → own Γ G' H' (.ref p) [p] (mk z') → Q v H'
structure CalI (Γ : Gm) (x : Str) (k : Nat) {τ β Z δ : Type} [RpA τ] [Rp β] [I : Ow δ] (mk : Z → δ) (f : τ → Z → Option (β × Z)) : Prop where
  ex : ∃ a fd ps, FnOk Γ.P Γ.w Γ.K Γ.mg Γ.base CX0 k a fd ps (specI Γ mk f) ∧ Γ.mg x = some (.ref a) ∧ PySem.W.keepIn Γ.K (.ref a) = true ∧ Binds Γ.K fd ps []
theorem CalI.mono {Γ : Gm} {x : Str} {j k : Nat} {τ β Z δ : Type} [RpA τ] [Rp β] [I : Ow δ] {mk : Z → δ} {f : τ → Z → Option (β × Z)} (h : CalI Γ x j mk f) (hk : j ≤ k) : CalI Γ x k mk f := by
  obtain ⟨a, fd, ps, F, h1, h2, h3⟩ := h.ex
  exact ⟨a, fd, ps, F.mono hk, h1, h2, h3⟩
class One {δ : Type} (I : Ow δ) : Prop where
  one : ∀ {Γ : Gm} {G H : Hp} {v : V} {fp : List Addr} {a : δ}, I.own Γ G H v fp a → ∃ p, v = .ref p ∧ fp = [p]
instance {α : Type} [Rp α] : One (instOwOL (α := α)) := ⟨fun ⟨a, vs, h1, h2, _⟩ => ⟨a, h1, h2⟩⟩
instance {κ α : Type} [K1 κ] [Rp α] : One (instOwOK (κ := κ) (α := α)) := ⟨fun ⟨a, vs, h1, h2, _⟩ => ⟨a, h1, h2⟩⟩
instance {κ α : Type} [KT κ] [Rp α] : One (instOwOT (κ := κ) (α := α)) := ⟨fun ⟨a, vs, h1, h2, _⟩ => ⟨a, h1, h2⟩⟩
section
variable {Γ : Gm} {x : Str} {st : Stmt} {N ps : List Str} {k : Nat} {τ β Z δ : Type} [RpA τ] [Rp β] [I : Ow δ] {mk : Z → δ}
abbrev ktI (β : Type) {Z δ : Type} [Ow δ] (mk : Z → δ) (i n : Nat) : Kt Empty β Z := ⟨fun l => l.elim, fun l => l.elim, fun c => (deads n).set i (ow (mk c)), false, fun _ _ _ _ => False, none⟩
def retI {S β Z : Type} : Fl S Empty β Z → Option (β × Z)
  | .nx _ => none
  | .ret b c => some (b, c)
  | .bk l => l.elim
  | .ct l => l.elim
  | .err _ _ => none
end
def cAI (Γ : Gm) (B : Bs) (ρ : Sto) (i : Nat) {τ : Type} [RpA τ] (m : Option τ) : TA := fun σ H Q => ∃ G a, At Γ B ρ G H σ ∧ m = some a ∧ ∀ vs v G' H', Grow G H G' H' → repA Γ G' vs a → σ[i]? = some (some v) → Q (vs ++ [v]) H'
abbrev XAI (X : Cx) (Γ : Gm) (B : Bs) (ρ : Sto) (i : Nat) (es : List Expr) {τ : Type} [RpA τ] (m : Option τ) : Prop := PA X es (cAI Γ B ρ i m)
section
variable {X : Cx} {Γ : Gm} {B : Bs} {ρ : Sto} {N : List Str} {sc : Scope} {k j : Nat} {pos p p' : Pos} {e a b : Expr} {es : List Expr} {x y : Str} {α τ β Z δ S : Type} [Rp α] [RpA τ] [Rp β] [I : Ow δ] {mk : Z → δ} {sto : S → Sto}
end
theorem ol_fp {Γ : Gm} {α : Type} [Rp α] {xs : List α} : ∀ G H v fp, Ow.own Γ G H v fp (OL.mk xs) → ∀ p, v = .ref p → p ∈ fp := fun _ _ _ _ ⟨a, vs, h1, h2, _⟩ p e => by
  rw [h1] at e
  injection e with e
  rw [h2, e]; simp
section
variable {X : Cx} {Γ : Gm} {B : Bs} {ρ : Sto} {N : List Str} {sc : Scope} {k j : Nat} {pos p p' : Pos} {e a b : Expr} {es : List Expr} {x y : Str} {α τ : Type} [Rp α] [RpA τ]
end
end Sim
namespace Sim
open PySem PySem.Spec PyProof.Rows L2
open Rp (rep)
open RpA (repA stoA)
theorem fun_of {K : PySem.W.Frag} {x qual : Str} {st : Stmt} {f : Addr} {fd : FuncData} (F : FunD K x qual (defArgs st) (defBody st) (defScope st) [] [] f fd) : Fun K x qual st f fd := by
  obtain ⟨oc, od, dV, kV, doc, pm, an, cdv, ct, osl, h1, h2, h3, h4, h5⟩ := F.ex
  rcases h4 with ⟨_, h4⟩ | ⟨h4, _⟩
  · subst h4
    exact ⟨⟨oc, od, kV, doc, pm, an, cdv, ct, osl, h1, h2, h3⟩, F.kp⟩
  · exact absurd rfl h4
theorem def_ok {Γ : Gm} {x y : Str} {st : Stmt} {ps : List Str} {f : Addr} {fd : FuncData} (F : FunD Γ.K y y (defArgs st) (defBody st) (defScope st) [] [] f fd) (hg : Γ.mg x = some (.ref f))
    (h : ∀ (kV doc pm : Value) (an : Option Addr) (cdv ct : Value) (us : List Value), us.length = ps.length → bindArgs (PySem.W.fnOf y y (defArgs st) (defBody st) (defScope st) .none kV doc pm an cdv ct) ⟨us, []⟩ = pure (ps.zip us)) : Def Γ x st ps :=
  ⟨y, f, fd, fun_of F, hg, fun s us _ hl => by
    rw [List.append_nil] at hl ⊢
    exact F.bindsA h s us hl⟩
section
variable {Γ : Gm} {x : Str} {st : Stmt} {N ps : List Str} {k : Nat} {τ β : Type} [RpA τ] [Rp β] {fr : Bool} {S : Type} {sto : S → Sto}
end
theorem law_start {Γ : Gm} {m : Scr × Unit → Option Bool} {H : Hp} {a : Addr} {ns : List Int} (hS : SqL Γ.K H a (ns.map V.int)) (h : m (⟨ns⟩, ()) = some true) {E : XK} : specP Γ false m [.ref a] H (fun v _ => v = .bl true) E :=
  ⟨H, (⟨ns⟩, ()), true, fun _ _ q => q, ⟨.ref a, [], rfl, ⟨a, rfl, hS⟩, rfl⟩, h, fun v G' H' _ r _ => r⟩
theorem ext_ok {Γ : Gm} {x : Str} {n : Nat} {h : Heap} (X : Γ.K.In h) (G : h.Ns mainGlobals Γ.mg) (hC : Γ.C n = He.ga Γ.K x) (c1 : (He.Fa.glo x).ok Γ.K = true) (c2 : (He.Fa.exc x).ok Γ.K = true) : ExT Γ x n := by
  obtain ⟨h1, h2, h3, h4⟩ := He.exc_ok c2
  refine ⟨?_, ?_, ?_, ?_, ?_⟩
  · rw [hC]; exact He.glo_ok X G c1
  all_goals rw [hC]
  · exact h2
  · exact h1
  · exact h3
  · exact h4
end Sim
namespace Sim
open PySem PySem.Spec PyProof.Rows L2
open Rp (rep)
open At1 (toV)
open K1 (key)
open KT (keys)
open Ow (own)
open Dat (toD)
open RpA (repA stoA)
section
variable {X : Cx} {Γ : Gm} {B : Bs} {L β C : Type} [Rp β] {F : Kt L β C} {ρ ρ' : Sto} {N : List Str} {sc : Scope} {k : Nat} {fx : List Nat} {W : WX} {M : List Addr} {pos p p' p2 : Pos} {e a b o tg it elt kx : Expr} {st : Stmt} {sts rest body : List Stmt} {es : List Expr} {S S1 : Type} {sto : S → Sto}
variable {α γ : Type} [Rp α] [Rp γ]
def cTF (Γ : Gm) (B : Bs) (ρ : Sto) {S : Type} (m : Option (Bool × S)) (sto : S → Sto) : TT := fun σ H Q => ∃ G b s, At Γ B ρ G H σ ∧ m = some (b, s) ∧ ∀ G' H', Le G G' → At Γ B (sto s) G' H' σ → Q b H'
abbrev XTF (X : Cx) (Γ : Gm) (B : Bs) (ρ : Sto) (e : Expr) {S : Type} (m : Option (Bool × S)) (sto : S → Sto) : Prop := PT X e (cTF Γ B ρ m sto)
end
end Sim
namespace Sim
open PySem L2
open Rp (rep)
open At1 (toV)
open Ow (own)
abbrev Bs.upO (B : Bs) (G : Hp) (σ : St) (i : Nat) : Bs := { B with G := G, σ := σ, fx := i :: B.fx }
theorem At.upO {Γ : Gm} {B : Bs} {ρ ρ' : Sto} {G H G' H' : Hp} {σ σ' : St} {i : Nat} (A0 : At Γ B ρ G H σ) (A : At Γ B ρ' G' H' σ') (l : Le G G') (hi : σ'[i]? = σ[i]?) : At Γ (B.upO G σ i) ρ' G' H' σ' :=
  ⟨A.sub, l, A.keep, A.live, fun a hm hb hg => A.thin a hm hb (by
    cases q : B.G a with
    | none => rfl
    | some o => exact absurd ((A0.le a o q).symm.trans hg) (by simp)), A.slots, fun j hj => by
    rcases List.mem_cons.mp hj with e | e
    · rw [e]; exact hi
    · rw [A.fix j e, A0.fix j e]⟩
theorem At.downO {Γ : Gm} {B : Bs} {ρ ρ' : Sto} {G H G' H' : Hp} {σ σ' : St} {i : Nat} (A0 : At Γ B ρ G H σ) (A : At Γ (B.upO G σ i) ρ' G' H' σ') : At Γ B ρ' G' H' σ' ∧ σ'[i]? = σ[i]? :=
  ⟨⟨A.sub, A0.le.trans A.le, A.keep, A.live, fun a hm hb hg => (A0.thin a hm hb hg).trans (A.thin a hm hb), A.slots, fun j hj => by
    have e := A.fix j (List.mem_cons_of_mem _ hj)
    have e : σ'[j]? = σ[j]? := e
    rw [e, A0.fix j hj]⟩, A.fix i List.mem_cons_self⟩
section
variable {X : Cx} {Γ : Gm} {B : Bs} {L β C : Type} [Rp β] {F : Kt L β C} {ρ ρ' : Sto} {N : List Str} {sc : Scope} {k : Nat} {fx : List Nat} {W : WX} {M : List Addr} {pos p : Pos} {tg : Expr} {body : List Stmt} {S : Type} {sto : S → Sto} {α : Type} [At1 α]
end
end Sim
namespace Sim
open PySem L2
open Rp (rep)
open At1 (toV)
open Ow (own)
section
variable {X : Cx} {Γ : Gm} {B : Bs} {L β C : Type} [Rp β] {F : Kt L β C} {ρ ρ' : Sto} {N : List Str} {sc : Scope} {k : Nat} {fx : List Nat} {W : WX} {M : List Addr} {pos p p' p2 : Pos} {e a b o tg it elt kx : Expr} {st : Stmt} {sts : List Stmt} {es : List Expr} {S : Type} {sto : S → Sto}
variable {α γ : Type} [Rp α] [Rp γ]
end
end Sim
namespace L2
open PySem PySem.Spec PyProof.Rows
section
variable {X : Cx}
def kOf (H : Hp) (v : Value) : Int × Int := match v with
  | .ref t => (match H t with | some (.tup [.int i, .int j]) => (i, j) | _ => (0, 0))
  | _ => (0, 0)
end
end L2
namespace Sim
open PySem L2
open Rp (rep)
open At1 (toV)
open Ow (own)
open KT (keys)
class Tot (α : Type) where
  le : α → α → Bool
  tr : ∀ a b c, le a b = true → le b c = true → le a c = true
  tot : ∀ a b, (le a b || le b a) = true
  anti : ∀ a b, le a b = true → le b a = true → a = b
def srt {α : Type} [Tot α] (xs : List α) : List α := xs.mergeSort Tot.le
theorem srt_perm {α : Type} [Tot α] (xs : List α) : (srt xs).Perm xs := List.mergeSort_perm _ _
theorem srt_pair {α : Type} [Tot α] (xs : List α) : (srt xs).Pairwise (fun a b => Tot.le a b = true) := List.pairwise_mergeSort Tot.tr Tot.tot xs
theorem srt_uniq {α : Type} [Tot α] {xs ys : List α} (p : ys.Perm xs) (s : ys.Pairwise (fun a b => Tot.le a b = true)) : ys = srt xs :=
  List.Perm.eq_of_pairwise (fun a b _ _ => Tot.anti a b) s (srt_pair xs) (p.trans (srt_perm xs).symm)
instance : Tot Int := ⟨fun a b => decide (a ≤ b), fun a b c h1 h2 => by simp at *; omega, fun a b => by simp; omega, fun a b h1 h2 => by simp at *; omega⟩
instance : Tot (Int × Int) := ⟨fun a b => !SrtO.lexB b a, fun a b c h1 h2 => by
    simp only [Bool.not_eq_true', SrtO.lexB_no] at *
    omega, fun a b => by
    rw [Bool.or_eq_true, Bool.not_eq_true', Bool.not_eq_true', SrtO.lexB_no, SrtO.lexB_no]
    omega, fun a b h1 h2 => by
    simp only [Bool.not_eq_true', SrtO.lexB_no] at *
    exact Prod.ext (by omega) (by omega)⟩
def tupd (G H : Hp) : Hp := fun a => match G a with
  | some o => some o
  | none => (match H a with | some (.tup vs) => some (.tup vs) | _ => none)
theorem tupd_old {G H : Hp} {a : Addr} {o : HO} (h : G a = some o) : tupd G H a = some o := by unfold tupd; rw [h]
theorem tupd_tup {G H : Hp} (s : Sub G H) {a : Addr} {vs : List V} (h : H a = some (.tup vs)) : tupd G H a = some (.tup vs) := by
  unfold tupd
  cases q : G a with
  | some o =>
    have := s a o q
    rw [h] at this
    exact this.symm
  | none => simp [h]
theorem Grow.tups {G H : Hp} (s : Sub G H) : Grow G H (tupd G H) H := by
  refine ⟨fun a o e => tupd_old e, .refl _, fun a o e => ?_, fun a ha e => ?_⟩
  · unfold tupd at e
    cases q : G a with
    | some u => rw [q] at e; cases e; exact s a _ q
    | none =>
      rw [q] at e
      simp only at e
      split at e
      · cases e; assumption
      · cases e
  · cases q : H a with
    | none => exact absurd q ha
    | some u =>
      by_cases t : ∃ vs, u = .tup vs
      · obtain ⟨vs, rfl⟩ := t
        exact .inr ⟨vs, rfl⟩
      · left
        unfold tupd
        rw [e, q]
        simp only
        split
        · rename_i vs w
          cases w
          exact absurd ⟨vs, rfl⟩ t
        · rfl
section
variable {X : Cx} {Γ : Gm} {B : Bs} {ρ : Sto} {N : List Str} {sc : Scope} {k : Nat} {pos p p' : Pos} {e a : Expr} {α : Type} [Rp α]
end
end Sim
namespace Sim
open PySem L2
open Rp (rep)
open At1 (toV)
open K1 (key)
open KT (keys)
open Ow (own)
open RpA (repA stoA)
abbrev st2 {α δ : Type} [Rp α] [Rp δ] (ρ : Sto) (i l : Nat) (a : α × δ) : Sto := (((ρ.set l .dead).set i .dead).set i (vl a.1)).set l (vl a.2)
def gP (K : PySem.W.Frag) (i l : Nat) : TG := fun v σ H Q => ∃ p u w, v = .ref p ∧ SqT K H p [u, w] ∧ Q ((σ.set i (some u)).set l (some w)) H
section
variable {X : Cx} {Γ : Gm} {B : Bs} {L β C : Type} [Rp β] {F : Kt L β C} {ρ ρ' : Sto} {N : List Str} {sc : Scope} {k : Nat} {fx : List Nat} {W : WX} {M : List Addr} {pos p p' : Pos} {e a b o tg it elt : Expr} {st : Stmt} {sts : List Stmt} {es : List Expr} {S : Type} {sto : S → Sto}
variable {α γ δ : Type} [Rp α] [Rp γ] [Rp δ]
end
end Sim
namespace Sim
open PySem L2
open Rp (rep)
open At1 (toV)
open K1 (key)
open KT (keys)
open Ow (own)
open RpA (repA stoA)
inductive Dy where
  | i (n : Int)
  | b (x : Bool)
  | u
  | t (s : Tt)
  | tp
  | ls
instance : Rp Dy := ⟨fun Γ G v y => match y with
  | .i n => v = .int n
  | .b x => v = .bl x
  | .u => v = .non
  | .t s => v = .str s.s
  | .tp => ∃ a xs, v = .ref a ∧ G a = some (.tup xs)
  | .ls => ∃ a xs, v = .ref a ∧ G a = some (.lst xs), fun {_ _ _ _ y} e h => by
  cases y with
  | tp => obtain ⟨a, xs, h1, h2⟩ := h; exact ⟨a, xs, h1, e _ _ h2⟩
  | ls => obtain ⟨a, xs, h1, h2⟩ := h; exact ⟨a, xs, h1, e _ _ h2⟩
  | _ => exact h⟩
def Dy.N : Dy → String
  | .i _ => "int"
  | .b _ => "bool"
  | .u => "NoneType"
  | .t _ => "str"
  | .tp => "tuple"
  | .ls => "list"
theorem Dy.ty {Γ : Gm} {G H : Hp} {v : V} {y : Dy} {K : PySem.W.Frag} (h : rep Γ G v y) (s : Sub G H) : TyOf K H v (.type y.N) := by
  cases y with
  | i n => rw [show v = .int n from h]; exact .int _
  | b x => rw [show v = .bl x from h]; exact .bl _
  | u => rw [show v = .non from h]; exact .non
  | t x => rw [show v = .str x.s from h]; exact .str _
  | tp => obtain ⟨a, xs, h1, h2⟩ := h; rw [h1]; exact .tup (s _ _ h2)
  | ls => obtain ⟨a, xs, h1, h2⟩ := h; rw [h1]; exact .lst (s _ _ h2)
def Dy.isI : Dy → Bool
  | .i _ => true
  | .b _ => true
  | _ => false
def Dy.isB : Dy → Bool
  | .b _ => true
  | _ => false
class Cst (α β : Type) [Rp α] [Rp β] where
  f : α → Option β
  ok : ∀ {Γ : Gm} {G : Hp} {v : V} {a : α} {b : β}, f a = some b → rep Γ G v a → rep Γ G v b
abbrev cst {α : Type} (β : Type) [Rp α] [Rp β] [Cst α β] (a : α) : Option β := Cst.f a
instance : Cst Int Dy := ⟨fun n => some (.i n), fun h r => by cases h; exact rep1 r⟩
instance : Cst Bool Dy := ⟨fun x => some (.b x), fun h r => by cases h; exact rep1 r⟩
instance : Cst Unit Dy := ⟨fun _ => some .u, fun h r => by cases h; exact rep1 r⟩
instance : Cst Tt Dy := ⟨fun s => some (.t s), fun h r => by cases h; exact rep1 r⟩
instance {α : Type} [Rp α] : Cst (TL α) Dy := ⟨fun _ => some .tp, fun h ⟨a, vs, h1, h2, _⟩ => by cases h; exact ⟨a, vs, h1, h2⟩⟩
instance {α : Type} [Rp α] : Cst (List α) Dy := ⟨fun _ => some .ls, fun h ⟨a, vs, h1, h2, _⟩ => by cases h; exact ⟨a, vs, h1, h2⟩⟩
def Dy.int? : Dy → Option Int
  | .i n => some n
  | _ => none
instance : Cst Dy Int := ⟨Dy.int?, fun {_ _ _ a _} h r => by cases a <;> first | (cases h; exact r) | cases h⟩
instance : Cst Dy Dy := ⟨some, fun h r => by cases h; exact r⟩
instance {α β γ δ : Type} [Rp α] [Rp β] [Rp γ] [Rp δ] [Cst α γ] [Cst β δ] : Cst (α × β) (γ × δ) := ⟨fun p => (cst γ p.1).bind fun x => (cst δ p.2).bind fun y => some (x, y), fun {_ _ _ p q} h ⟨a, x, y, h1, h2, h3, h4⟩ => by
  have h : ((cst γ p.1).bind fun x => (cst δ p.2).bind fun y => some (x, y)) = some q := h
  cases e1 : cst γ p.1 with
  | none => rw [e1] at h; cases h
  | some x' =>
    rw [e1] at h
    cases e2 : cst δ p.2 with
    | none => rw [e2] at h; cases h
    | some y' =>
      rw [e2] at h
      cases h
      exact ⟨a, x, y, h1, h2, Cst.ok e1 h3, Cst.ok e2 h4⟩⟩
def cstL {α : Type} (β : Type) [Rp α] [Rp β] [Cst α β] : List α → Option (List β)
  | [] => some []
  | a :: r => (cst β a).bind fun b => (cstL β r).bind fun t => some (b :: t)
theorem cstL_ok {α β : Type} [Rp α] [Rp β] [Cst α β] {Γ : Gm} {G : Hp} : ∀ {xs : List α} {ys : List β} {vs : List V}, cstL β xs = some ys → RpL Γ G vs xs → RpL Γ G vs ys
  | [], ys, vs, h, r => by cases h; cases r; exact .nil
  | a :: r, ys, vs, h, hr => by
    have h : ((cst β a).bind fun b => (cstL β r).bind fun t => some (b :: t)) = some ys := h
    cases e1 : cst β a with
    | none => rw [e1] at h; cases h
    | some b =>
      rw [e1] at h
      cases e2 : cstL β r with
      | none => rw [e2] at h; cases h
      | some t' =>
        rw [e2] at h
        cases h
        cases hr with
        | cons q t => exact .cons (Cst.ok e1 q) (cstL_ok e2 t)
instance {α β : Type} [Rp α] [Rp β] [Cst α β] : Cst (List α) (List β) := ⟨cstL β, fun h ⟨a, vs, h1, h2, h3⟩ => ⟨a, vs, h1, h2, cstL_ok h h3⟩⟩
section
variable {X : Cx} {Γ : Gm} {B : Bs} {L β C : Type} [Rp β] {F : Kt L β C} {ρ ρ' : Sto} {N : List Str} {sc : Scope} {k : Nat} {fx : List Nat} {W : WX} {M : List Addr} {pos p p' p2 : Pos} {e a b o tg it elt kx : Expr} {st : Stmt} {sts : List Stmt} {es : List Expr} {S : Type} {sto : S → Sto}
variable {α γ : Type} [Rp α] [Rp γ]
end
structure ExS (Γ : Gm) (cs : List Nat) : Prop where
  no9 : 9 ∉ cs
  cc : ∀ i, i ∈ cs → ExcC Γ.K (Γ.C i)
  kit : ∀ i j, i ∈ cs → j ∈ cs → PySem.W.kitOne Γ.K (.ref (Γ.C i)) (.ref (Γ.C j)) = some (He.subN i j)
  exm : ∀ i j, i ∈ cs → j ∈ cs → PySem.W.exmOne Γ.K (.ref (Γ.C i)) (.ref (Γ.C j)) = some (He.subN i j)
  ve : ∀ i, i ∈ cs → PySem.W.kitOne Γ.K (.ref (Γ.C i)) (.type "ValueError") = some true
structure ExV (a : Addr) where
  e : Er
instance {a : Addr} : Rp (ExV a) := ⟨fun _ _ v _ => v = .ref a, fun _ h => h⟩
structure Hok (X : Cx) (Γ : Gm) (N : List Str) (sc : Scope) (k : Nat) (a : Addr) (e : Er) : Prop where
  hP : X.prog = Γ.P
  hw : X.w = Γ.w
  hK : X.K = Γ.K
  hmg : X.mg = Γ.mg
  hbase : X.base = Γ.base
  hN : X.N = N
  nd : N.Nodup
  hsc : X.env.scope = sc
  ex : ∃ X0 oe pn d, X = Cx.suite X0 a ((a, oe) :: pn) ∧ Zc (.ref (Γ.C e.cls)) d oe ∧ (e.cls ≠ 9 → d = none) ∧ ∃ vs, oe.data = .fields vs
theorem Hok.gl {X : Cx} {Γ : Gm} {N : List Str} {sc : Scope} {k : Nat} {a : Addr} {e : Er} (c : Hok X Γ N sc k a e) {x : Str} (h : Glb sc x) : Gl X x := by
  show X.env.scope.names.lookup x = _
  rw [c.hsc]
  exact h
abbrev Kt.tr {L β C : Type} (F : Kt L β C) {Sx : Type} (stx : Sx → Sto) (W : WX) : Kt L β (C ⊕ Sx) := ⟨F.stb, F.stc, Sum.elim F.str stx, F.fr, W, F.ow⟩
abbrev Kt.su {L β C : Type} (F : Kt L β C) : Kt L β C := ⟨F.stb, F.stc, F.str, F.fr, fun _ _ _ _ => False, F.ow⟩
def noErr {S L β C : Type} : Option (Fl S L β C) → Option (Fl S L β C)
  | some (.err _ _) => none
  | r => r
def tryM {S L β C Sx : Type} (hit : Er → Bool) (m : Option (Fl S L β (C ⊕ Sx))) (ms : Er → Sx → Option (Fl S L β C)) : Option (Fl S L β C) := m.bind fun r => match r with
  | .nx s => some (.nx s)
  | .bk l => some (.bk l)
  | .ct l => some (.ct l)
  | .ret b (.inl c) => some (.ret b c)
  | .err e (.inr x) => if hit e = true then noErr (ms e x) else none
  | _ => none
def hitN (cs : List Nat) (j : Nat) (e : Er) : Bool := decide (e.cls ∈ cs) && He.subN e.cls j
theorem exs_ok {Γ : Gm} {xs : List (Nat × Str)} (h : He.exsB xs Γ.K = true) (no9 : 9 ∉ xs.map (·.1)) (hx : ∀ p ∈ xs, Γ.C p.1 = He.ga Γ.K p.2) : ExS Γ (xs.map (·.1)) := by
  have key : ∀ p ∈ xs, He.excB Γ.K p.2 = true ∧ PySem.W.kitOne Γ.K (.ref (He.ga Γ.K p.2)) (.type "ValueError") = some true ∧ ∀ q ∈ xs, He.pairB Γ.K p q = true := fun p hp => by
    obtain ⟨h1, h2⟩ := He.ba (List.all_eq_true.mp h p hp)
    obtain ⟨h3, h4⟩ := He.ba h2
    exact ⟨h1, of_decide_eq_true h3, fun q hq => List.all_eq_true.mp h4 q hq⟩
  refine ⟨no9, fun i hi => ?_, fun i j hi hj => ?_, fun i j hi hj => ?_, fun i hi => ?_⟩
  · obtain ⟨p, hp, rfl⟩ := List.mem_map.mp hi
    rw [hx p hp]
    exact He.excB_ok (key p hp).1
  · obtain ⟨p, hp, rfl⟩ := List.mem_map.mp hi
    obtain ⟨q, hq, rfl⟩ := List.mem_map.mp hj
    rw [hx p hp, hx q hq]
    exact of_decide_eq_true (He.ba ((key p hp).2.2 q hq)).1
  · obtain ⟨p, hp, rfl⟩ := List.mem_map.mp hi
    obtain ⟨q, hq, rfl⟩ := List.mem_map.mp hj
    rw [hx p hp, hx q hq]
    exact of_decide_eq_true (He.ba ((key p hp).2.2 q hq)).2
  · obtain ⟨p, hp, rfl⟩ := List.mem_map.mp hi
    rw [hx p hp]
    exact (key p hp).2.1
section
variable {X : Cx} {Γ : Gm} {B : Bs} {L β C : Type} [Rp β] {F : Kt L β C} {ρ ρ' : Sto} {N : List Str} {sc : Scope} {k : Nat} {fx : List Nat} {W : WX} {M : List Addr} {pos pos' p p' p2 : Pos} {e a b o tg it elt kx : Expr} {st : Stmt} {sts suite : List Stmt} {b₀ : Stmt} {es : List Expr} {S Sx : Type} {sto : S → Sto}
end
end Sim
namespace Sim
open PySem L2
open Rp (rep)
open At1 (toV)
open K1 (key)
open KT (keys)
open Ow (own)
open RpA (repA stoA)
structure WebD where
  pairs : List Tt
  givers : List Tt
  suits : List ((Tt × Tt) × Bool)
abbrev webF (p g s : V) : List (Str × V) := [("pairs", p), ("givers", g), ("_suits", s)]
instance instRpWebD : Rp WebD := ⟨fun Γ G v w => ∃ a dx p g s, v = .ref a ∧ G a = some (.ins (Γ.C 20) dx (webF p g s)) ∧ rep Γ G p w.pairs ∧ rep Γ G g w.givers ∧ rep Γ G s (DT.mk w.suits),
  fun e ⟨a, dx, p, g, s, h1, h2, h3, h4, h5⟩ => ⟨a, dx, p, g, s, h1, e _ _ h2, Rp.mono e h3, Rp.mono e h4, Rp.mono e h5⟩⟩
inductive WS where
  | w0
  | w1 (p : List Tt)
  | w2 (p g : List Tt)
  | w3 (p g : List Tt) (s : List ((Tt × Tt) × Bool))
def WS.rp (Γ : Gm) (G : Hp) (v : V) : WS → Prop
  | .w3 p g s => rep Γ G v (WebD.mk p g s)
  | _ => True
instance instRpWS : Rp WS := ⟨fun Γ G v w => WS.rp Γ G v w, fun {_ _ _ _ w} e h => by
  cases w with
  | w3 p g s => exact Rp.mono (α := WebD) e h
  | _ => exact trivial⟩
def WS.ow (Γ : Gm) (G H : Hp) (x dx : Addr) (fp : List Addr) : WS → Prop
  | .w0 => fp = [x, dx] ∧ H x = some (.ins (Γ.C 20) dx [])
  | .w1 p => ∃ pv, fp = [x, dx] ∧ H x = some (.ins (Γ.C 20) dx [("pairs", pv)]) ∧ rep Γ G pv p
  | .w2 p g => ∃ pv gv, fp = [x, dx] ∧ H x = some (.ins (Γ.C 20) dx [("pairs", pv), ("givers", gv)]) ∧ rep Γ G pv p ∧ rep Γ G gv g
  | .w3 p g s => ∃ pv gv sd kvs, fp = [x, dx, sd] ∧ H x = some (.ins (Γ.C 20) dx (webF pv gv (.ref sd))) ∧ rep Γ G pv p ∧ rep Γ G gv g ∧ H sd = some (.dT kvs) ∧ RpT Γ G kvs s
theorem WS.hx {Γ : Gm} {G H : Hp} {x dx : Addr} {fp : List Addr} {w : WS} (h : w.ow Γ G H x dx fp) : ∃ fs, H x = some (.ins (Γ.C 20) dx fs) := by
  cases w with
  | w0 => exact ⟨_, h.2⟩
  | w1 p => obtain ⟨pv, _, h, _⟩ := h; exact ⟨_, h⟩
  | w2 p g => obtain ⟨pv, gv, _, h, _⟩ := h; exact ⟨_, h⟩
  | w3 p g s => obtain ⟨pv, gv, sd, kvs, _, h, _⟩ := h; exact ⟨_, h⟩
theorem WS.fpm {Γ : Gm} {G H : Hp} {x dx : Addr} {fp : List Addr} {w : WS} (h : w.ow Γ G H x dx fp) : ∀ y ∈ fp, y = x ∨ y = dx ∨ ∃ kvs, H y = some (.dT kvs) := by
  have two : fp = [x, dx] → ∀ y ∈ fp, y = x ∨ y = dx ∨ ∃ kvs, H y = some (.dT kvs) := fun e y hy => by
    rw [e] at hy
    simp at hy
    exact hy.imp_right .inl
  cases w with
  | w0 => exact two h.1
  | w1 p => obtain ⟨pv, e, h, _⟩ := h; exact two e
  | w2 p g => obtain ⟨pv, gv, e, h, _⟩ := h; exact two e
  | w3 p g s =>
    obtain ⟨pv, gv, sd, kvs, e, h, _, _, h2, _⟩ := h
    intro y hy
    rw [e] at hy
    simp at hy
    rcases hy with z | z | z
    · exact .inl z
    · exact .inr (.inl z)
    · exact .inr (.inr ⟨kvs, by rw [z]; exact h2⟩)
theorem WS.xin {Γ : Gm} {G H : Hp} {x dx : Addr} {fp : List Addr} {w : WS} (h : w.ow Γ G H x dx fp) : x ∈ fp ∧ dx ∈ fp := by
  cases w with
  | w0 => rw [h.1]; simp
  | w1 p => obtain ⟨pv, e, h, _⟩ := h; rw [e]; simp
  | w2 p g => obtain ⟨pv, gv, e, h, _⟩ := h; rw [e]; simp
  | w3 p g s => obtain ⟨pv, gv, sd, kvs, e, h, _⟩ := h; rw [e]; simp
theorem WS.stay {Γ : Gm} {G G' H H' : Hp} {x dx : Addr} {fp : List Addr} {w : WS} (h : w.ow Γ G H x dx fp) (e : Le G G') (k : ∀ y ∈ fp, ∀ o, H y = some o → H' y = some o) : w.ow Γ G' H' x dx fp := by
  have hx := (WS.xin h).1
  cases w with
  | w0 => exact ⟨h.1, k x hx _ h.2⟩
  | w1 p => obtain ⟨pv, e1, h1, h2⟩ := h; exact ⟨pv, e1, k x hx _ h1, Rp.mono e h2⟩
  | w2 p g => obtain ⟨pv, gv, e1, h1, h2, h3⟩ := h; exact ⟨pv, gv, e1, k x hx _ h1, Rp.mono e h2, Rp.mono e h3⟩
  | w3 p g s => obtain ⟨pv, gv, sd, kvs, e1, h1, h2, h3, h4, h5⟩ := h; exact ⟨pv, gv, sd, kvs, e1, k x hx _ h1, Rp.mono e h2, Rp.mono e h3, k sd (by rw [e1]; simp) _ h4, h5.mono e⟩
instance instOwWS : Ow WS where
  own := fun Γ G H v fp w => ∃ x dx, v = .ref x ∧ H dx = some (.own x) ∧ w.ow Γ G H x dx fp
  stay := fun ⟨x, dx, h1, h2, h3⟩ e k => ⟨x, dx, h1, k dx (WS.xin h3).2 _ h2, WS.stay h3 e k⟩
  there := fun ⟨x, dx, h1, h2, h3⟩ y hy => by
    rcases WS.fpm h3 y hy with z | z | ⟨kvs, z⟩
    · obtain ⟨fs, e⟩ := WS.hx h3
      rw [z]; exact some_ne e
    · rw [z]; exact some_ne h2
    · exact some_ne z
  nt := fun ⟨x, dx, h1, h2, h3⟩ y hy ws e => by
    rcases WS.fpm h3 y hy with z | z | ⟨kvs, z⟩
    · obtain ⟨fs, e2⟩ := WS.hx h3
      rw [z, e2] at e; cases e
    · rw [z, h2] at e; cases e
    · rw [z] at e; cases e
  F := WS
  iF := instRpWS
  toF := fun w => w
  canF := true
  fz := fun _ Γ G H v fp w ob ⟨x, dx, h1, h2, h3⟩ le => by
    cases w with
    | w3 p g s =>
      obtain ⟨pv, gv, sd, kvs, e1, h4, h5, h6, h7, h8⟩ := h3
      have fr : ∀ y ∈ fp, frzd G (lkd H fp ob) fp y = lkd H fp ob y := fun y hy => if_pos hy
      refine ⟨x, dx, pv, gv, .ref sd, h1, ?_, Rp.mono le h5, Rp.mono le h6, sd, kvs, ob sd, rfl, ?_, h8.mono le⟩
      · rw [fr x (by rw [e1]; simp)]
        exact lkd_nd h4 fun q => q
      · rw [fr sd (by rw [e1]; simp)]
        exact lkd_d (by rw [e1]; simp) h7 trivial
    | _ => exact trivial
structure WbT (Γ : Gm) : Prop where
  cl : Cls Γ.K (Γ.C 20)
  np : NoAttr Γ.K (Γ.C 20) "pairs"
  ng : NoAttr Γ.K (Γ.C 20) "givers"
  ns : NoAttr Γ.K (Γ.C 20) "_suits"
section
variable {X : Cx} {Γ : Gm} {B : Bs} {L β C : Type} [Rp β] {F : Kt L β C} {ρ ρ' : Sto} {N : List Str} {sc : Scope} {k j : Nat} {fx : List Nat} {W : WX} {M : List Addr} {pos p p' p2 apos : Pos} {e a b o tg it elt kx : Expr} {st : Stmt} {sts : List Stmt} {es : List Expr} {S : Type} {sto : S → Sto}
variable {α γ τ : Type} [Rp α] [Rp γ] [RpA τ]
theorem xe_wP (c : Cok X Γ N sc k) (T : WbT Γ) {m : Option WebD} (h : XE X Γ B ρ e m) (hb : attributeBase e "pairs" X.env (eval e X.env) = eval e X.env := by rfl) : XE X Γ B ρ (.Attribute e "pairs" pos) (m.bind fun w => some w.pairs) := imE (pe_fld h hb) fun σ H Q ⟨G, z, A, e, q⟩ => by
  cases m with
  | none => cases e
  | some w =>
    cases e
    exact ⟨G, w, A, rfl, fun v G1 H1 g1 ⟨a, dx, p, g, s, h1, h2, h3, h4, h5⟩ => ⟨a, _, dx, _, p, h1, g1.sub _ _ h2, by rw [c.hK]; exact T.cl, by rw [c.hK]; exact T.np, rfl, q p G1 H1 g1 h3⟩⟩
theorem xe_wG (c : Cok X Γ N sc k) (T : WbT Γ) {m : Option WebD} (h : XE X Γ B ρ e m) (hb : attributeBase e "givers" X.env (eval e X.env) = eval e X.env := by rfl) : XE X Γ B ρ (.Attribute e "givers" pos) (m.bind fun w => some w.givers) := imE (pe_fld h hb) fun σ H Q ⟨G, z, A, e, q⟩ => by
  cases m with
  | none => cases e
  | some w =>
    cases e
    exact ⟨G, w, A, rfl, fun v G1 H1 g1 ⟨a, dx, p, g, s, h1, h2, h3, h4, h5⟩ => ⟨a, _, dx, _, g, h1, g1.sub _ _ h2, by rw [c.hK]; exact T.cl, by rw [c.hK]; exact T.ng, rfl, q g G1 H1 g1 h4⟩⟩
theorem xe_wS (c : Cok X Γ N sc k) (T : WbT Γ) {m : Option WebD} (h : XE X Γ B ρ e m) (hb : attributeBase e "_suits" X.env (eval e X.env) = eval e X.env := by rfl) : XE X Γ B ρ (.Attribute e "_suits" pos) (m.bind fun w => some (DT.mk w.suits)) := imE (pe_fld h hb) fun σ H Q ⟨G, z, A, e, q⟩ => by
  cases m with
  | none => cases e
  | some w =>
    cases e
    exact ⟨G, w, A, rfl, fun v G1 H1 g1 ⟨a, dx, p, g, s, h1, h2, h3, h4, h5⟩ => ⟨a, _, dx, _, s, h1, g1.sub _ _ h2, by rw [c.hK]; exact T.cl, by rw [c.hK]; exact T.ns, rfl, q s G1 H1 g1 h5⟩⟩
theorem xe_oP (c : Cok X Γ N sc k) (T : WbT Γ) {x : Str} (i : Nat) {p0 g0 : List Tt} {s0 : List ((Tt × Tt) × Bool)} (hi : ρ[i]? = some (ow (WS.w3 p0 g0 s0))) (hN : N[i]? = some x) (hv : Vis sc x) (hd : (x == ("__debug__" : Str)) = false := by decide) (hcd : (x == ("__classdict__" : Str)) = false := by decide)
    (hb : attributeBase (.Name x p) "pairs" X.env (eval (.Name x p) X.env) = eval (.Name x p) X.env := by rfl) : XE X Γ B ρ (.Attribute (.Name x p) "pairs" pos) (some p0) := imE (pe_fld (pv_ c hN hv hd hcd) hb) fun σ H Q ⟨G, z, A, e, q⟩ => by
  cases e
  obtain ⟨v, fp, h1, ⟨xx, dx, rfl, h2, pv, gv, sd, kvs, e1, h4, h5, h6, h7, h8⟩, h3⟩ := A.getO hi
  exact ⟨_, h1, xx, _, dx, _, pv, rfl, h4, by rw [c.hK]; exact T.cl, by rw [c.hK]; exact T.np, rfl, q pv G H (.refl A.sub) h5⟩
theorem xe_oG (c : Cok X Γ N sc k) (T : WbT Γ) {x : Str} (i : Nat) {p0 g0 : List Tt} {s0 : List ((Tt × Tt) × Bool)} (hi : ρ[i]? = some (ow (WS.w3 p0 g0 s0))) (hN : N[i]? = some x) (hv : Vis sc x) (hd : (x == ("__debug__" : Str)) = false := by decide) (hcd : (x == ("__classdict__" : Str)) = false := by decide)
    (hb : attributeBase (.Name x p) "givers" X.env (eval (.Name x p) X.env) = eval (.Name x p) X.env := by rfl) : XE X Γ B ρ (.Attribute (.Name x p) "givers" pos) (some g0) := imE (pe_fld (pv_ c hN hv hd hcd) hb) fun σ H Q ⟨G, z, A, e, q⟩ => by
  cases e
  obtain ⟨v, fp, h1, ⟨xx, dx, rfl, h2, pv, gv, sd, kvs, e1, h4, h5, h6, h7, h8⟩, h3⟩ := A.getO hi
  exact ⟨_, h1, xx, _, dx, _, gv, rfl, h4, by rw [c.hK]; exact T.cl, by rw [c.hK]; exact T.ng, rfl, q gv G H (.refl A.sub) h6⟩
theorem xt_oS (c : Cok X Γ N sc k) (T : WbT Γ) {x : Str} (i : Nat) {p0 g0 : List Tt} {s0 : List ((Tt × Tt) × Bool)} (hi : ρ[i]? = some (ow (WS.w3 p0 g0 s0))) (hN : N[i]? = some x) (hv : Vis sc x) (hd : (x == ("__debug__" : Str)) = false := by decide) (hcd : (x == ("__classdict__" : Str)) = false := by decide)
    (hb : attributeBase (.Name x p) "_suits" X.env (eval (.Name x p) X.env) = eval (.Name x p) X.env := by rfl) : XDT X Γ B ρ (.Attribute (.Name x p) "_suits" pos) (some s0) := imE (pe_fld (pv_ c hN hv hd hcd) hb) fun σ H Q ⟨G, z, A, e, q⟩ => by
  cases e
  obtain ⟨v, fp, h1, ⟨xx, dx, rfl, h2, pv, gv, sd, kvs, e1, h4, h5, h6, h7, h8⟩, h3⟩ := A.getO hi
  exact ⟨_, h1, xx, _, dx, _, .ref sd, rfl, h4, by rw [c.hK]; exact T.cl, by rw [c.hK]; exact T.ns, rfl, q sd kvs G H (.refl A.sub) (.inl h7) h8⟩
theorem At.ins {G H : Hp} {σ : St} {G1 H1 : Hp} {i : Nat} {w w' : WS} {fp : List Addr} {x dx : Addr} {fs' : List (Str × V)} (hx : ∃ fs, H x = some (.ins (Γ.C 20) dx fs)) (g0 : G x = none) (g : Grow G H G1 H1) (hfp : x ∈ fp) (th : ∀ y ∈ fp, H y ≠ none)
    (ch : ∀ (β : Type) (J : Ow β) (b : β) (G' H' : Hp) (fp' : List Addr), Le G G' → Sub G' H' → (∀ x, H x ≠ none → G x = none → Th (H x) (G' x)) → (∀ x o, x ∉ fp → H x = some o → H' x = some o) → (∀ x ∈ fp, H' x ≠ none) → (∀ x ∈ fp', x ∈ fp ∨ (H x = none ∧ G' x = none)) → J.own Γ G' H' (.ref x) fp' b → At Γ B (ρ.set i (.own β J b)) G' H' σ)
    (hw : w'.ow Γ G1 (upd H1 x (.ins (Γ.C 20) dx fs')) x dx fp) (hdx : H dx = some (.own x)) : At Γ B (ρ.set i (ow w')) G1 (upd H1 x (.ins (Γ.C 20) dx fs')) σ := by
  obtain ⟨fs, hx⟩ := hx
  have gx : G1 x = none := (g.thin x (some_ne hx) g0).no hx
  have ne : dx ≠ x := fun z => by rw [z, hx] at hdx; cases hdx
  refine ch WS _ w' G1 _ fp g.leG (fun y o hy => ?_) g.thin (fun y o hy ho => ?_) (fun y hy => ?_) (fun y hy => .inl hy) ⟨x, dx, rfl, by rw [upd_ne ne]; exact g.leH _ _ hdx, hw⟩
  · rw [upd_ne (fun z => by rw [z, gx] at hy; cases hy)]
    exact g.sub _ _ hy
  · rw [upd_ne (fun z : y = x => hy (by rw [z]; exact hfp))]
    exact g.leH _ _ ho
  · by_cases z : y = x
    · rw [z, upd_same]; simp
    · rw [upd_ne z]
      cases q : H y with
      | none => exact absurd q (th y hy)
      | some o => rw [g.leH _ _ q]; simp
theorem xp_oP (d : Dok X Γ B N sc k fx W M) (T : WbT Γ) {x : Str} (i : Nat) {m : Option (List Tt)} (he : XE X Γ B ρ e m) (hi : ρ[i]? = some (ow WS.w0)) (hN : N[i]? = some x) (hv : Vis sc x) (hd : (x == ("__debug__" : Str)) = false := by decide) (hcd : (x == ("__classdict__" : Str)) = false := by decide)
    (hs : swapsWith e (some (.Attribute (.Name x p) "pairs" p2)) pos.line X.env = pure false := by rfl) : XP1 X Γ B ρ (.Assign [.Attribute (.Name x p) "pairs" p2] e pos) m (fun z => ρ.set i (ow (WS.w1 z))) := imS (ps_fld (pv_ d.toCok hN hv hd hcd) he hs) fun D σ H ⟨G, s, A, e, q⟩ => by
  refine ⟨G, s, A, e, fun y G1 H1 g1 r1 => ?_⟩
  obtain ⟨v, fp, h1, ⟨xx, dx, rfl, h2, e1, h4⟩, hg0, ch⟩ := A.openO hi
  have hxf : xx ∈ fp := by rw [e1]; simp
  refine ⟨_, h1, xx, _, dx, [], rfl, g1.leH _ _ h4, by rw [d.hK]; exact T.cl, by rw [d.hK]; exact T.np, by simp, q G1 _ σ (At.ins (w := .w0) ⟨_, h4⟩ (hg0 _ hxf) g1 hxf (fun y hy => ?_) ch ⟨y, e1, upd_same, r1⟩ h2)⟩
  exact instOwWS.there (Γ := Γ) (G := G) (v := .ref xx) (a := .w0) ⟨xx, dx, rfl, h2, e1, h4⟩ y hy
theorem xp_oG (d : Dok X Γ B N sc k fx W M) (T : WbT Γ) {x : Str} (i : Nat) {m : Option (List Tt)} {p0 : List Tt} (he : XE X Γ B ρ e m) (hi : ρ[i]? = some (ow (WS.w1 p0))) (hN : N[i]? = some x) (hv : Vis sc x) (hd : (x == ("__debug__" : Str)) = false := by decide) (hcd : (x == ("__classdict__" : Str)) = false := by decide)
    (hs : swapsWith e (some (.Attribute (.Name x p) "givers" p2)) pos.line X.env = pure false := by rfl) : XP1 X Γ B ρ (.Assign [.Attribute (.Name x p) "givers" p2] e pos) m (fun z => ρ.set i (ow (WS.w2 p0 z))) := imS (ps_fld (pv_ d.toCok hN hv hd hcd) he hs) fun D σ H ⟨G, s, A, e, q⟩ => by
  refine ⟨G, s, A, e, fun y G1 H1 g1 r1 => ?_⟩
  obtain ⟨v, fp, h1, ⟨xx, dx, rfl, h2, pv, e1, h4, h5⟩, hg0, ch⟩ := A.openO hi
  have hxf : xx ∈ fp := by rw [e1]; simp
  refine ⟨_, h1, xx, _, dx, _, rfl, g1.leH _ _ h4, by rw [d.hK]; exact T.cl, by rw [d.hK]; exact T.ng, by simp, q G1 _ σ (At.ins (w := .w1 p0) ⟨_, h4⟩ (hg0 _ hxf) g1 hxf (fun y hy => ?_) ch ⟨pv, y, e1, upd_same, Rp.mono g1.leG h5, r1⟩ h2)⟩
  exact instOwWS.there (Γ := Γ) (G := G) (v := .ref xx) (a := .w1 p0) ⟨xx, dx, rfl, h2, pv, e1, h4, h5⟩ y hy
end
end Sim
namespace L2
open PySem PySem.Spec PyProof.Rows
section
variable {X : Cx} {CX : CXT} {k : Nat} {f C : Addr} {fd : FuncData} {ps : List Str} {sp : Sp} {E : St → XK} {x m : Str} {p pos apos : Pos} {e o : Expr} {es : List Expr} {ta : TE} {t : TA}
theorem run_makeZ {pins : List (Addr × Obj)} {σ : St} {H : Hp} {s : Shared} {Q : VK} {us : List Value} {vs : List V} (M : Mk X.K C f) (F : FnOk X.prog X.w X.K X.mg X.base CX k f fd ps sp) (hr : Room (k + 1) X.A) (hb : Binds X.K fd ps [])
    (hx : PassesAt CX X σ (E σ)) (I : Inv X pins σ H s) (r : Vals vs us)
    (h : ∀ x dx, H x = none → H dx = none → dx ≠ x → sp (.ref x :: vs) (upd (upd H dx (.own x)) x (.ins C dx [])) (fun v H2 => v = .non ∧ Q (.ref x) H2) (E σ)) :
    wpAny (model X.prog X.w) X.A (call (.ref C) us) (EP X pins σ Q) X.xe s := by
  have hq := h (s.heap.objs.size + 1) s.heap.objs.size (I.hok.fresh (Nat.le_succ _)) (I.hok.fresh (Nat.le_refl _)) (Nat.ne_of_lt (Nat.lt_succ_self _))
  have I2 := Inv.made (C := C) I
  have r2 : Vals (V.ref (s.heap.objs.size + 1) :: vs) (Value.ref (s.heap.objs.size + 1) :: us) := .cons rfl r
  have hl : (Value.ref (s.heap.objs.size + 1) :: us).length = ps.length := by
    have e := r2.length
    rw [F.len _ _ _ _ hq] at e
    exact e.symm
  have b := hb { s with heap := (s.heap.push PySem.W.emptyDict).push (PySem.W.instObj C s.heap.objs.size) } (Value.ref (s.heap.objs.size + 1) :: us) I2.kIn (by rw [List.append_nil]; exact hl)
  rw [List.append_nil] at b
  refine wpAny_call (make_map (f := f) I.kIn M.makes M.init (beq_iff_eq.mp M.fn) (codeAny_mono (F.run _ X.stack _ _ ⟨Value.ref (s.heap.objs.size + 1) :: us, []⟩ (Value.ref (s.heap.objs.size + 1) :: us) _ _ (E σ) (hr.make C us [])
    (I2.env0.make C us []) b r2 hq) fun r s' hq' => ?_))
  cases r with
  | error e => exact hx pins _ _ e s' I2 hq'
  | ok fl =>
    cases fl with
    | ret u =>
      obtain ⟨v, H', I3, rv, ev, q3⟩ := I2.after hq'
      subst ev
      exact ⟨rv, ⟨V.ref (s.heap.objs.size + 1), H', I3, rfl, q3⟩⟩
    | next => exact False.elim hq'
    | brk => exact False.elim hq'
    | cont => exact False.elim hq'
def tMakeZ (C : Addr) (sp : Sp) (E : St → XK) (t : TA) : TE := fun σ H Q => t σ H fun vs H1 => ∀ x dx, H1 x = none → H1 dx = none → dx ≠ x →
  sp (.ref x :: vs) (upd (upd H1 dx (.own x)) x (.ins C dx [])) (fun v H2 => v = .non ∧ Q (.ref x) H2) (E σ)
theorem pe_makeZ (M : Mk X.K C f) (F : FnOk X.prog X.w X.K X.mg X.base CX k f fd ps sp) (hr : Room (k + 1) X.A) (hg : Gl X x) (hm : X.mg x = some (.ref C)) (hb : Binds X.K fd ps []) (hx : ∀ σ, PassesAt CX X σ (E σ))
    (ha : PA X (e :: es) t) (hdb : (x == ("__debug__" : Str)) = false := by decide) (he : starEach (e :: es) X.env = (false, eval e X.env) :: starEach es X.env := by rfl) (hpl : (backTo pos (starEach es X.env)).any (·.1) = false := by rfl) :
    PE X (.Call (.Name x p) (e :: es) [] pos) (tMakeZ C sp E t) := by
  refine ⟨fun pins s σ H Q I h => ?_⟩
  refine wpAny_Call_Name_kw (ld_glob I hg hm ?_ hdb)
  refine PySem.W.callWith_K (h₀ := X.base) I.ok.mod.kin M.kp (thn (ha.run pos pins s σ H _ I h) fun us s1 ⟨vs, H1, I1, r, q⟩ => ⟨I1.kIn, ?_⟩) he hpl
  exact run_makeZ M F hr hb (hx σ) I1 r q
def tMethZ (C : Addr) (m : Str) (sp : Sp) (E : St → XK) (ta : TE) (t : TA) : TE := fun σ H Q => ta σ H fun x H1 => ∃ a dx fs, x = .ref a ∧ H1 a = some (.ins C dx fs) ∧ fs.lookup m = none ∧ t σ H1 fun vs H2 => sp (x :: vs) H2 Q (E σ)
theorem pe_methZ {pl : Sem Bool} (he : PE X o ta) (c : Cls X.K C) (hm : Meth X.K C m f) (F : FnOk X.prog X.w X.K X.mg X.base CX k f fd ps sp) (hr : Room k X.A) (hb : Binds X.K fd ps []) (hx : ∀ σ, PassesAt CX X σ (E σ)) (ha : PA X (e :: es) t)
    (hst : starEach (e :: es) X.env = (false, eval e X.env) :: starEach es X.env := by rfl) (hpl : (backTo pos (starEach es X.env)).any (·.1) = false := by rfl)
    (ht : eval (.Call (.Attribute o m apos) (e :: es) [] pos) X.env = (do
      let ov ← eval o X.env
      standAt apos.atName
      let (f, first) ← holding [ov] (getMethod ov m pl)
      callWith pos f first (backTo pos (starEach (e :: es) X.env)) (backToKw pos (keywordEach [] X.env))) := by rfl) :
    PE X (.Call (.Attribute o m apos) (e :: es) [] pos) (tMethZ C m sp E ta t) := by
  refine ⟨fun pins s σ H Q I h => ?_⟩
  refine PySem.W.methodCall_KW (pl := pl) (thn (he.run pins s σ H _ I h) fun u s1 ⟨x, H1, I1, rx, a, dx, fs, ex, ea, l, q⟩ => ?_) ht
  subst ex
  obtain rfl : u = Value.ref a := rx
  refine getmeth_ok I1 ea c hm l ?_
  refine PySem.W.callWith_K (first := [.ref a]) (h₀ := X.base) I.ok.mod.kin hm.kp (thn (ha.run pos pins s1 σ H1 _ I1 q) fun us s2 ⟨vs, H2, I2, r, q2⟩ => ⟨I2.kIn, ?_⟩) hst hpl
  exact run_fnS (us := .ref a :: us) (vs := .ref a :: vs) F hr hb (hx σ) I2 (.cons rfl r) q2
theorem pe_methZ0 {pl : Sem Bool} (he : PE X o ta) (c : Cls X.K C) (hm : Meth X.K C m f) (F : FnOk X.prog X.w X.K X.mg X.base CX k f fd ps sp) (hr : Room k X.A) (hb : Binds X.K fd ps []) (hx : ∀ σ, PassesAt CX X σ (E σ))
    (ht : eval (.Call (.Attribute o m apos) [] [] pos) X.env = (do
      let ov ← eval o X.env
      standAt apos.atName
      let (f, first) ← holding [ov] (getMethod ov m pl)
      callWith pos f first (backTo pos (starEach [] X.env)) (backToKw pos (keywordEach [] X.env))) := by rfl) :
    PE X (.Call (.Attribute o m apos) [] [] pos) (tMethZ C m sp E ta tNil) := by
  refine ⟨fun pins s σ H Q I h => ?_⟩
  refine PySem.W.methodCall_KW (pl := pl) (thn (he.run pins s σ H _ I h) fun u s1 ⟨x, H1, I1, rx, a, dx, fs, ex, ea, l, q⟩ => ?_) ht
  subst ex
  obtain rfl : u = Value.ref a := rx
  refine getmeth_ok I1 ea c hm l ?_
  exact PySem.W.callWith_K0 (first := [.ref a]) I1.kIn hm.kp (run_fnS (us := [.ref a]) (vs := [.ref a]) F hr hb (hx σ) I1 (.cons rfl .nil) q)
end
end L2
namespace Sim
open PySem L2
open Rp (rep)
open At1 (toV)
open K1 (key)
open KT (keys)
open Ow (own)
open RpA (repA stoA)
section
variable {X : Cx} {Γ : Gm} {B : Bs} {L β C : Type} [Rp β] {F : Kt L β C} {ρ ρ' : Sto} {N : List Str} {sc : Scope} {k j : Nat} {fx : List Nat} {W : WX} {M : List Addr} {pos p p' p2 apos : Pos} {e a b o tg it elt kx : Expr} {st : Stmt} {sts : List Stmt} {es : List Expr} {S : Type} {sto : S → Sto}
variable {α γ τ : Type} [Rp α] [Rp γ] [RpA τ]
theorem xp_oS (d : Dok X Γ B N sc k fx W M) (T : WbT Γ) {x : Str} (i : Nat) {p0 g0 : List Tt} {p3 : Pos} (hi : ρ[i]? = some (ow (WS.w2 p0 g0))) (hN : N[i]? = some x) (hv : Vis sc x) (hd : (x == ("__debug__" : Str)) = false := by decide) (hcd : (x == ("__classdict__" : Str)) = false := by decide)
    (hs : swapsWith (.Dict [] [] p3) (some (.Attribute (.Name x p) "_suits" p2)) pos.line X.env = pure false := by rfl) : XP1 X Γ B ρ (.Assign [.Attribute (.Name x p) "_suits" p2] (.Dict [] [] p3) pos) (some ()) (fun _ => ρ.set i (ow (WS.w3 p0 g0 []))) := imS (ps_fld (pv_ d.toCok hN hv hd hcd) pe_dnewT hs) fun D σ H ⟨G, s, A, e, q⟩ => by
  intro sd hsd
  obtain ⟨v, fp, h1, ⟨xx, dx, rfl, h2, pv, gv, e1, h4, h5, h6⟩, hg0, ch⟩ := A.openO hi
  have nx : xx ≠ sd := fun z => by rw [z, hsd] at h4; cases h4
  have nd : dx ≠ sd := fun z => by rw [z, hsd] at h2; cases h2
  have ne : dx ≠ xx := fun z => by rw [z, h4] at h2; cases h2
  have gsd : G sd = none := A.sub.none hsd
  have gx : G xx = none := hg0 xx (by rw [e1]; simp)
  refine ⟨_, h1, xx, _, dx, _, rfl, by rw [upd_ne nx]; exact h4, by rw [d.hK]; exact T.cl, by rw [d.hK]; exact T.ns, by simp, q G _ σ (ch WS _ (WS.w3 p0 g0 []) G _ [xx, dx, sd] (.refl _) (fun y o hy => ?_) (fun y _ hy => .inl hy) (fun y o hy ho => ?_) (fun y hy => ?_) (fun y hy => ?_) ⟨xx, dx, rfl, by rw [upd_ne ne, upd_ne nd]; exact h2, pv, gv, sd, [], rfl, upd_same, h5, h6, by rw [upd_ne (Ne.symm nx), upd_same], .nil⟩)⟩
  · have y1 : y ≠ xx := fun z => by rw [z, gx] at hy; cases hy
    have y2 : y ≠ sd := fun z => by rw [z, gsd] at hy; cases hy
    rw [upd_ne y1, upd_ne y2]
    exact A.sub _ _ hy
  · have y1 : y ≠ xx := fun z => hy (by rw [z, e1]; simp)
    have y2 : y ≠ sd := fun z => by rw [z, hsd] at ho; cases ho
    rw [upd_ne y1, upd_ne y2]
    exact ho
  · rw [e1] at hy
    simp at hy
    rcases hy with z | z
    · rw [z, upd_same]; simp
    · rw [z, upd_ne ne, upd_ne nd, h2]; simp
  · simp at hy
    rcases hy with z | z | z
    · exact .inl (by rw [z, e1]; simp)
    · exact .inl (by rw [z, e1]; simp)
    · exact .inr (by rw [z]; exact ⟨hsd, gsd⟩)
theorem xp_oPut (c : Dok X Γ B N sc k fx W M) (T : WbT Γ) {x : Str} (i : Nat) {p0 g0 : List Tt} {s0 : List ((Tt × Tt) × Bool)} {mk : Option (Tt × Tt)} {mv : Option Bool} {p3 : Pos} (hi : ρ[i]? = some (ow (WS.w3 p0 g0 s0))) (hN : N[i]? = some x) (hv : Vis sc x) (hk : XE X Γ B ρ a mk) (he : XE X Γ B ρ e mv) (hd : (x == ("__debug__" : Str)) = false := by decide) (hcd : (x == ("__classdict__" : Str)) = false := by decide)
    (hb : attributeBase (.Name x p) "_suits" X.env (eval (.Name x p) X.env) = eval (.Name x p) X.env := by rfl)
    (hs : swapsWith e (some (.Subscript (.Attribute (.Name x p) "_suits" p3) a p2)) pos.line X.env = pure false := by rfl) :
    XP1 X Γ B ρ (.Assign [.Subscript (.Attribute (.Name x p) "_suits" p3) a p2] e pos) (mv.bind fun v => mk.bind fun y => dput s0 y v) (fun d' => ρ.set i (ow (WS.w3 p0 g0 d'))) := imS (ps_dput c.hu (pe_fld (pv_ c.toCok hN hv hd hcd) hb) hk he hs) fun D σ H ⟨G, s, A, e, q⟩ => by
  cases mv with
  | none => cases e
  | some v =>
    cases mk with
    | none => cases e
    | some y =>
      obtain ⟨hl, e⟩ := ite_some (by have qq : dput s0 y v = some s := e; unfold dput at qq; exact qq)
      subst e
      refine ⟨G, v, A, rfl, fun w G1 H1 g1 r1 => ?_⟩
      obtain ⟨u, fp, h1, ⟨xx, dx, rfl, h2, pv, gv, sd, kvs, e1, h4, h5, h6, h7, h8⟩, hg0, ch⟩ := A.openO hi
      refine ⟨_, h1, xx, _, dx, _, .ref sd, rfl, g1.leH _ _ h4, by rw [c.hK]; exact T.cl, by rw [c.hK]; exact T.ns, rfl, G1, y, A.grow g1, rfl, fun z G2 H2 g2 r2 => ?_⟩
      obtain ⟨t, e2, e3⟩ := TKey.tup r2
      have g := g1.trans g2
      have gsd : G sd = none := hg0 sd (by rw [e1]; simp)
      have nx : xx ≠ sd := fun z => by rw [z, h7] at h4; cases h4
      have nd : dx ≠ sd := fun z => by rw [z, h7] at h2; cases h2
      have g2sd : G2 sd = none := (g.thin sd (some_ne h7) gsd).no h7
      refine ⟨sd, _, rfl, .inr ⟨kvs, keys y, t, g.leH _ _ h7, e2, g2.sub.tup e3, by rw [show kvs.length = s0.length from Paired.length h8]; exact big_lt (by omega), rfl⟩, ?_⟩
      refine q G2 _ σ (ch WS _ (WS.w3 p0 g0 (put s0 y v)) G2 _ fp g.leG (fun b o hy => ?_) g.thin (fun b o hy ho => ?_) (fun b hy => ?_) (fun b hy => .inl hy) ⟨xx, dx, rfl, by rw [upd_ne nd]; exact g.leH _ _ h2, pv, gv, sd, _, e1, by rw [upd_ne nx]; exact g.leH _ _ h4, Rp.mono g.leG h5, Rp.mono g.leG h6, upd_same, (h8.mono g.leG).put (Rp.mono g2.leG r1)⟩)
      · rw [upd_ne (fun z => by rw [z, g2sd] at hy; cases hy)]
        exact g.sub _ _ hy
      · rw [upd_ne (fun z => hy (by rw [z, e1]; simp))]
        exact g.leH _ _ ho
      · by_cases z : b = sd
        · rw [z, upd_same]; simp
        · rw [upd_ne z]
          have := instOwWS.there (Γ := Γ) (G := G) (v := .ref xx) (a := .w3 p0 g0 s0) ⟨xx, dx, rfl, h2, pv, gv, sd, kvs, e1, h4, h5, h6, h7, h8⟩ b hy
          cases qb : H b with
          | none => exact absurd qb this
          | some o => rw [g.leH _ _ qb]; simp
end
end Sim
namespace Sim
open PySem PySem.Spec PyProof.Rows L2
open Rp (rep)
open Ow (own)
open RpA (repA stoA)
structure CalM (Γ : Gm) (x : Str) (k : Nat) (fr : Bool) {τ β : Type} [RpA τ] [Rp β] (f : WebD × τ → Option β) : Prop where
  ex : ∃ a fd ps, FnOk Γ.P Γ.w Γ.K Γ.mg Γ.base CX0 k a fd ps (specP Γ fr f) ∧ Meth Γ.K (Γ.C 20) x a ∧ Binds Γ.K fd ps []
structure DefM (Γ : Gm) (x qual : Str) (st : Stmt) (ps : List Str) : Prop where
  ex : ∃ a fd, Fun Γ.K x qual st a fd ∧ Meth Γ.K (Γ.C 20) x a ∧ Binds Γ.K fd ps []
section
variable {Γ : Gm} {x qual : Str} {st : Stmt} {N ps : List Str} {k : Nat} {τ β : Type} [RpA τ] [Rp β] {fr : Bool} {S : Type} {sto : S → Sto}
theorem fnokQ_of {a : Addr} {fd : FuncData} (F : Fun Γ.K x qual st a fd) (Sc : FnScope N ps (defScope st)) {m : τ → Option (Fl S Empty β Unit)} (fin : S → β) (hfin : ∀ s (G : Hp), rep Γ G .non (fin s)) (hps : RpA.num τ = ps.length)
    (hb : ∀ (X : Cx) (B : Bs) (t : τ), Dok X Γ B N (defScope st) k [] (fun _ _ _ _ => False) [] → XB X Γ B (ktP β fr N.length) (stoA t ++ deads (N.length - RpA.num τ)) (defBody st) (m t) sto) (fm : τ → Option β) (hm : ∀ t, fm t = (m t).bind (retP fin)) : FnOk Γ.P Γ.w Γ.K Γ.mg Γ.base CX0 (k + 1) a fd ps (specP Γ fr fm) := by
  refine F.ok Sc (fun vs H Q E h => ?_) (fun cdv A outer s H vs Q E hr h => ?_)
  · obtain ⟨G, t, b, h1, h2, _⟩ := h
    rw [(RpA.okA (H := H) h2).1, hps]
  · obtain ⟨G, t, b, h1, h2, h3, q⟩ := h
    have hN : RpA.num τ ≤ N.length := by
      rw [hps]
      have z := congrArg List.length Sc.pre
      rw [List.length_take] at z
      omega
    have A0 := at_start (fx := []) h1 h2 hN
    refine ⟨_, hb _ ⟨G, H, [], L2.start N vs, []⟩ t ⟨⟨rfl, rfl, rfl, rfl, rfl, rfl, Sc.nd, rfl, rfl, hr⟩, PassesOwn.never, fun _ => rfl, L2N.takes0, rfl, rfl, rfl, rfl⟩, ?_⟩
    rw [hm] at h3
    cases e : m t with
    | none => rw [e] at h3; cases h3
    | some r =>
      rw [e] at h3
      refine ⟨G, r, A0, by first | exact e | rfl, ?_⟩
      cases r with
      | nx s1 =>
        have h3 : some (fin s1) = some b := h3
        have h3 := Option.some.inj h3
        subst h3
        intro G' H' σ' A'
        exact q .non G' H' A'.grown (hfin s1 G') fun _ p z => by cases z
      | bk l => exact l.elim
      | ct l => exact l.elim
      | ret b' c =>
        have h3 : some b' = some b := h3
        have h3 := Option.some.inj h3
        subst h3
        intro v G' H' σ' A' r f _
        exact q v G' H' A'.grown r f
      | err e' c => cases h3
theorem calM_of (D : DefM Γ x qual st ps) (Sc : FnScope N ps (defScope st)) {m : WebD × τ → Option (Fl S Empty β Unit)} (fin : S → β) (hfin : ∀ s (G : Hp), rep Γ G .non (fin s)) (hps : RpA.num (WebD × τ) = ps.length)
    (hb : ∀ (X : Cx) (B : Bs) (t : WebD × τ), Dok X Γ B N (defScope st) k [] (fun _ _ _ _ => False) [] → XB X Γ B (ktP β fr N.length) (stoA t ++ deads (N.length - RpA.num (WebD × τ))) (defBody st) (m t) sto) (fm : WebD × τ → Option β) (hm : ∀ t, fm t = (m t).bind (retP fin)) : CalM Γ x (k + 1) fr fm := by
  obtain ⟨a, fd, F, h1, h2⟩ := D.ex
  exact ⟨a, fd, ps, fnokQ_of F Sc fin hfin hps hb fm hm, h1, h2⟩
theorem CalM.mono {f : WebD × τ → Option β} {j : Nat} (h : CalM Γ x j fr f) (hk : j ≤ k) : CalM Γ x k fr f := by
  obtain ⟨a, fd, ps, F, h1, h2⟩ := h.ex
  exact ⟨a, fd, ps, F.mono hk, h1, h2⟩
def specC (Γ : Gm) {τ : Type} [RpA τ] (f : τ → Option (Except Er WebD)) : Sp := fun vs H Q E => ∃ G H0 x dx ws t b, Sub G H0 ∧ H0 x = none ∧ H0 dx = none ∧ dx ≠ x ∧ H = upd (upd H0 dx (.own x)) x (.ins (Γ.C 20) dx []) ∧ vs = .ref x :: ws ∧ repA Γ G ws t ∧ f t = some b ∧ match b with
  | .ok w => ∀ G' H', Grow G H0 G' H' → rep Γ G' (.ref x) w → Q .non H'
  | .error e => ∀ cls d G' H', Grow G H0 G' H' → IsEr Γ e cls d H' → E cls d H'
structure CalC (Γ : Gm) (x : Str) (k : Nat) {τ : Type} [RpA τ] (f : τ → Option (Except Er WebD)) : Prop where
  ex : ∃ a fd ps, FnOk Γ.P Γ.w Γ.K Γ.mg Γ.base (L2N.CX Γ.P Γ.w) k a fd ps (specC Γ f) ∧ Mk Γ.K (Γ.C 20) a ∧ Γ.mg x = some (.ref (Γ.C 20)) ∧ Binds Γ.K fd ps []
structure DefC (Γ : Gm) (x qual : Str) (st : Stmt) (ps : List Str) : Prop where
  ex : ∃ a fd, Fun Γ.K "__init__" qual st a fd ∧ Mk Γ.K (Γ.C 20) a ∧ Γ.mg x = some (.ref (Γ.C 20)) ∧ Binds Γ.K fd ps []
abbrev ktC (n : Nat) (W : WX) : Kt Empty Unit Unit := ⟨fun l => l.elim, fun l => l.elim, fun _ => deads n, false, W, none⟩
abbrev stC (n : Nat) (w : WS) : Sto := vl w :: deads (n - 1)
def retC : Fl WS Empty Unit Unit → Option (Except Er WebD)
  | .nx (.w3 p g s) => some (.ok ⟨p, g, s⟩)
  | .err e _ => some (.error e)
  | _ => none
structure GrowF (fp : List Addr) (G H G' H' : Hp) : Prop where
  leG : Le G G'
  keep : ∀ a o, a ∉ fp → H a = some o → H' a = some o
  live : ∀ a, H a ≠ none → H' a ≠ none
  sub : Sub G' H'
  thin : ∀ a, a ∉ fp → H a ≠ none → G a = none → Th (H a) (G' a)
theorem At.openF {Γ : Gm} {B : Bs} {ρ : Sto} {G H : Hp} {σ : L2.St} {α : Type} {I : Ow α} {a : α} {i : Nat} (A : At Γ B ρ G H σ) (h : ρ[i]? = some (.own α I a)) : ∃ v fp, σ[i]? = some (some v) ∧ I.own Γ G H v fp a ∧ (∀ x ∈ fp, G x = none) ∧
    ∀ (β : Type) (J : Ow β) (b : β) (G' H' : Hp) (fp' : List Addr), GrowF fp G H G' H' → (∀ x ∈ fp', G' x = none ∧ (x ∈ fp ∨ H x = none)) → J.own Γ G' H' v fp' b →
      At Γ B (ρ.set i (.own β J b)) G' H' σ := by
  obtain ⟨φ, h1, h3⟩ := A.slots
  have hi : i < ρ.length := (List.getElem?_eq_some_iff.mp h).1
  obtain ⟨o, e1, v, e2, ow⟩ := h1.ok i _ h
  have e1 : σ[i]? = some (some v) := by rw [e1, e2]
  refine ⟨v, φ i, e1, ow, fun x hx => (h3 i x hx).1, fun β J b G' H' fp' ⟨leG, keep, thr, sub, thin⟩ hfp own' => ?_⟩
  have hs : i < σ.length := by rw [h1.len]; exact hi
  have hfp2 : ∀ j x, j ≠ i → x ∈ fp' → x ∉ φ j := fun j x hj hx hm => by
    rcases (hfp x hx).2 with q | q
    · exact hj (h1.apart j i x hm q)
    · exact h1.there j x hm q
  have out : ∀ x, x ∉ B.M → B.H x ≠ none → x ∉ φ i := fun x hx hb hm => by
    rcases (h3 i x hm).2 with w | w
    · exact hb w
    · exact hx w
  refine ⟨sub, A.le.trans leG, fun x u hx e => ?_, fun x hx => thr x (A.live x hx), fun x hx hb hg => ?_, ⟨setφ φ i fp', ?_, fun j x hx => ?_⟩, A.fix⟩
  · exact keep x u (out x hx (some_ne e)) (A.keep x u hx e)
  · refine (A.thin x hx hb hg).trans fun z => ?_
    have hh : H x = B.H x := by
      cases q : B.H x with
      | none => exact absurd q hb
      | some u => exact A.keep x u hx q
    rw [← hh]
    exact thin x (out x hx hb) (by rw [hh]; exact hb) z
  · refine ⟨by simp [h1.len], fun j s hj => ?_, fun j k x hx hy => ?_, fun j hj => ?_⟩
    · by_cases z : j = i
      · subst z
        rw [List.getElem?_set_self hi] at hj
        cases hj
        exact ⟨some v, e1, v, rfl, by rw [setφ_same]; exact own'⟩
      · rw [List.getElem?_set_ne (Ne.symm z)] at hj
        obtain ⟨o', q1, q2⟩ := h1.ok j s hj
        refine ⟨o', q1, ?_⟩
        rw [setφ_ne z]
        exact q2.grow leG fun x hx u e => keep x u (fun hm => z (h1.apart j i x hx hm)) e
    · rcases mem_setφ hx with ⟨e, hx⟩ | ⟨e, hx⟩ <;> rcases mem_setφ hy with ⟨e', hy⟩ | ⟨e', hy⟩
      · rw [e, e']
      · exact absurd hy (hfp2 k x e' hx)
      · exact absurd hx (hfp2 j x e hy)
      · exact h1.apart j k x hx hy
    · have z : j ≠ i := by
        intro z
        rw [List.length_set, z] at hj
        omega
      rw [setφ_ne z]
      exact h1.out j (by simpa using hj)
  · rcases mem_setφ hx with ⟨_, q⟩ | ⟨hj, q⟩
    · refine ⟨(hfp x q).1, ?_⟩
      rcases (hfp x q).2 with w | w
      · exact (h3 i x w).2
      · left
        cases z : B.H x with
        | none => rfl
        | some u => exact absurd w (A.live x (some_ne z))
    · exact ⟨(thin x (fun hm => hj (h1.apart j i x q hm)) (h1.there j x q) (h3 j x q).1).none (h1.nt j x q), (h3 j x q).2⟩
def specIE (Γ : Gm) {τ : Type} [RpA τ] (f : τ → WS → Option (Except Er WS)) : Sp := fun vs H Q E => ∃ G x fp w ws t r, Sub G H ∧ vs = .ref x :: ws ∧ repA Γ G ws t ∧ (∀ y ∈ fp, G y = none) ∧ own Γ G H (.ref x) fp w ∧ f t w = some r ∧ match r with
  | .ok w' => ∀ G' H' fp', GrowF fp G H G' H' → (∀ y ∈ fp', G' y = none ∧ (y ∈ fp ∨ H y = none)) → own Γ G' H' (.ref x) fp' w' → Q .non H'
  | .error e => ∀ cls d G' H' fp' (w' : WS), GrowF fp G H G' H' → (∀ y ∈ fp', G' y = none ∧ (y ∈ fp ∨ H y = none)) → own Γ G' H' (.ref x) fp' w' → IsEr Γ e cls d H' → E cls d H'
structure CalIE (Γ : Gm) (x : Str) (k : Nat) {τ : Type} [RpA τ] (f : τ → WS → Option (Except Er WS)) : Prop where
  ex : ∃ a fd ps, FnOk Γ.P Γ.w Γ.K Γ.mg Γ.base (L2N.CX Γ.P Γ.w) k a fd ps (specIE Γ f) ∧ Meth Γ.K (Γ.C 20) x a ∧ Binds Γ.K fd ps []
abbrev ktIE (n : Nat) (W : WX) : Kt Empty Unit WS := ⟨fun l => l.elim, fun l => l.elim, fun w => ow w :: deads (n - 1), false, W, none⟩
abbrev stIE (n : Nat) (w : WS) : Sto := ow w :: deads (n - 1)
def retIE : Fl WS Empty Unit WS → Option (Except Er WS)
  | .nx w' => some (.ok w')
  | .err e _ => some (.error e)
  | _ => none
theorem at_startIE {G H : Hp} {x : Addr} {fp : List Addr} {w : WS} {ws : List V} {t : τ} (s : Sub G H) (r : repA Γ G ws t) (hn : RpA.num τ + 1 ≤ N.length) (hg : ∀ y ∈ fp, G y = none) (ho : own Γ G H (.ref x) fp w) :
    At Γ ⟨G, H, fp, L2.start N (.ref x :: ws), [0]⟩ (ow w :: (stoA t ++ deads (N.length - RpA.num τ - 1))) G H (L2.start N (.ref x :: ws)) := by
  have q := RpA.okA (H := H) r
  have hl : (stoA t).length = RpA.num τ := RpA.lenA t
  refine ⟨s, .refl _, fun _ _ _ h => h, fun _ h => h, fun _ _ _ h => .inl h, ⟨fun i => if i = 0 then fp else [], ⟨by simp [L2.start, hl, q.1]; omega, fun i sl e => ?_, fun i j y h h' => ?_, fun i hi => ?_⟩, fun i a h => ?_⟩, fun _ _ => rfl⟩
  · cases i with
    | zero =>
      have e : ow w = sl := Option.some.inj e
      subst e
      exact ⟨some (.ref x), by simp [L2.start], .ref x, rfl, ho⟩
    | succ i =>
      rw [List.getElem?_cons_succ] at e
      have z : ¬ (i + 1 = 0) := by omega
      by_cases hi : i < RpA.num τ
      · rw [List.getElem?_append_left (by rw [hl]; exact hi)] at e
        obtain ⟨v, q1, q2⟩ := q.2 i sl e
        refine ⟨some v, ?_, by rw [if_neg z]; exact q2⟩
        unfold L2.start
        rw [List.getElem?_append_left (by simp [q.1]; omega), List.getElem?_map, List.getElem?_cons_succ, q1]
        rfl
      · rw [List.getElem?_append_right (by rw [hl]; omega), hl] at e
        obtain ⟨e1, e2⟩ := get_rep e
        subst e1
        refine ⟨none, ?_, by rw [if_neg z]; exact rfl⟩
        unfold L2.start
        rw [List.getElem?_append_right (by simp [q.1]; omega), List.getElem?_replicate, if_pos]
        simp [q.1]
        omega
  · by_cases e1 : i = 0 <;> by_cases e2 : j = 0
    · rw [e1, e2]
    · rw [if_neg e2] at h'; simp at h'
    · rw [if_neg e1] at h; simp at h
    · rw [if_neg e1] at h; simp at h
  · rw [if_neg]
    intro e
    rw [e] at hi
    simp at hi
  · dsimp only at h
    by_cases e1 : i = 0
    · rw [if_pos e1] at h
      exact ⟨hg a h, .inr h⟩
    · rw [if_neg e1] at h; simp at h
theorem atIE_end {G H : Hp} {x : Addr} {fp : List Addr} {ws : List V} {G' H' : Hp} {σ' : L2.St} {w' : WS} (hn : 1 ≤ N.length) (A' : At Γ ⟨G, H, fp, L2.start N (.ref x :: ws), [0]⟩ (ow w' :: deads (N.length - 1)) G' H' σ') :
    ∃ fp', GrowF fp G H G' H' ∧ (∀ y ∈ fp', G' y = none ∧ (y ∈ fp ∨ H y = none)) ∧ own Γ G' H' (.ref x) fp' w' := by
  obtain ⟨φ, h1, h3⟩ := A'.slots
  obtain ⟨o, e1, v, e2, ow'⟩ := h1.ok 0 (ow w') rfl
  have fx := A'.fix 0 (by simp)
  have e3 : (L2.start N (.ref x :: ws))[0]? = some (some (.ref x)) := by simp [L2.start]
  have fx : σ'[0]? = (L2.start N (.ref x :: ws))[0]? := fx
  rw [e1, e2, e3] at fx
  have ev : v = .ref x := by
    have := Option.some.inj fx
    exact Option.some.inj this
  subst ev
  refine ⟨φ 0, ⟨A'.le, A'.keep, A'.live, A'.sub, A'.thin⟩, fun y hy => ⟨(h3 0 y hy).1, ?_⟩, ow'⟩
  exact (h3 0 y hy).2.symm
end
def exW {C : Type} (c : C) : Except Er WS → Except (Er × C) (Unit × WS)
  | .ok w => .ok ((), w)
  | .error e => .error (e, c)
def exC {C : Type} (c : C) : Except Er WebD → Except (Er × C) (WebD × Unit)
  | .ok w => .ok (w, ())
  | .error e => .error (e, c)
section
variable {X : Cx} {Γ : Gm} {B : Bs} {L β C : Type} [Rp β] {F : Kt L β C} {ρ ρ' : Sto} {N : List Str} {sc : Scope} {k j : Nat} {fx : List Nat} {W : WX} {M : List Addr} {pos p p' p2 apos : Pos} {e a b o tg it elt kx : Expr} {es : List Expr} {S : Type} {sto : S → Sto}
variable {α γ δ τ : Type} [Rp α] [Rp γ] [Rp δ] [RpA τ] {fr : Bool} {x y : Str}
theorem xe_meth (c : Cok X Γ N sc k) (T : WbT Γ) {f : WebD × τ → Option δ} {mo : Option WebD} {mt : Option τ} {pl : Sem Bool} (h : CalM Γ x j fr f) (hk : j ≤ k) (ho : XE X Γ B ρ o mo) (ha : XA X Γ B ρ (e :: es) mt) (hf : ∀ p g s : V, (webF p g s).lookup x = none := by intro _ _ _; rfl)
    (hst : starEach (e :: es) X.env = (false, eval e X.env) :: starEach es X.env := by rfl) (hpl : (backTo pos (starEach es X.env)).any (·.1) = false := by rfl)
    (ht : eval (.Call (.Attribute o x apos) (e :: es) [] pos) X.env = (do
      let ov ← eval o X.env
      standAt apos.atName
      let (f, first) ← holding [ov] (getMethod ov x pl)
      callWith pos f first (backTo pos (starEach (e :: es) X.env)) (backToKw pos (keywordEach [] X.env))) := by rfl) :
    XE X Γ B ρ (.Call (.Attribute o x apos) (e :: es) [] pos) (mo.bind fun w => mt.bind fun t => f (w, t)) := by
  obtain ⟨a, fd, ps, Fo, hM, bi⟩ := h.ex
  refine imE (pe_methZ (CX := CX0) (E := fun _ _ _ _ => False) ho (by rw [c.hK]; exact T.cl) (by rw [c.hK]; exact hM) (by rw [c.hP, c.hw, c.hK, c.hmg, c.hbase]; exact Fo) (c.room.mono hk) (by rw [c.hK]; exact bi) (fun σ pins H s e s' I h => h.elim) ha hst hpl ht) fun σ H Q ⟨G, z, A, e, q⟩ => ?_
  cases mo with
  | none => cases e
  | some w =>
    cases mt with
    | none => cases e
    | some t =>
      refine ⟨G, w, A, rfl, fun v G1 H1 g1 r1 => ?_⟩
      obtain ⟨a', dx, p, g, s, h1, h2, h3⟩ := id r1
      refine ⟨a', dx, _, h1, g1.sub _ _ h2, hf p g s, G1, t, A.grow g1, rfl, fun vs G2 H2 g2 r2 => ?_⟩
      exact ⟨G2, (w, t), z, g2.sub, ⟨v, vs, rfl, Rp.mono g2.leG r1, r2⟩, e, fun v' G3 H3 g3 r3 _ => q v' G3 H3 ((g1.trans g2).trans g3) r3⟩
class NoLs (α : Type) [Rp α] : Prop where
  nols : ∀ {Γ : Gm} {G : Hp} {d : Addr} {us : List V} {v : V} {a : α}, G d = some (.lst us) → rep Γ G v a → rep Γ (fun y => if y = d then none else G y) v a
instance (priority := 60) {α : Type} [At1 α] : NoLs α := ⟨fun _ r => r⟩
instance {α β : Type} [Rp α] [Rp β] [NoLs α] [NoLs β] : NoLs (α × β) := ⟨fun {Γ G d us v p} h ⟨a, x, y, h1, h2, h3, h4⟩ => ⟨a, x, y, h1, by
  show (if a = d then none else G a) = _
  rw [if_neg (fun z => by rw [z, h] at h2; cases h2)]
  exact h2, NoLs.nols h h3, NoLs.nols h h4⟩⟩
theorem xn_meth0 [NoLs α] (c : Cok X Γ N sc k) (T : WbT Γ) {f : WebD × Unit → Option (List α)} {mo : Option WebD} {pl : Sem Bool} (h : CalM Γ x j true f) (hk : j ≤ k) (ho : XE X Γ B ρ o mo) (hf : ∀ p g s : V, (webF p g s).lookup x = none := by intro _ _ _; rfl)
    (ht : eval (.Call (.Attribute o x apos) [] [] pos) X.env = (do
      let ov ← eval o X.env
      standAt apos.atName
      let (f, first) ← holding [ov] (getMethod ov x pl)
      callWith pos f first (backTo pos (starEach [] X.env)) (backToKw pos (keywordEach [] X.env))) := by rfl) :
    XN X Γ B ρ (.Call (.Attribute o x apos) [] [] pos) (mo.bind fun w => f (w, ())) := by
  obtain ⟨a, fd, ps, Fo, hM, bi⟩ := h.ex
  refine imE (pe_methZ0 (CX := CX0) (E := fun _ _ _ _ => False) ho (by rw [c.hK]; exact T.cl) (by rw [c.hK]; exact hM) (by rw [c.hP, c.hw, c.hK, c.hmg, c.hbase]; exact Fo) (c.room.mono hk) (by rw [c.hK]; exact bi) (fun σ pins H s e s' I h => h.elim) ht) fun σ H Q ⟨G, z, A, e, q⟩ => ?_
  cases mo with
  | none => cases e
  | some w =>
    refine ⟨G, w, A, rfl, fun v G1 H1 g1 r1 => ?_⟩
    obtain ⟨a', dx, p, g, s, h1, h2, h3⟩ := id r1
    refine ⟨a', dx, _, h1, g1.sub _ _ h2, hf p g s, ?_⟩
    refine ⟨G1, (w, ()), z, g1.sub, ⟨v, [], rfl, r1, rfl⟩, e, fun v' G2 H2 g2 ⟨d, us, hv, hd, rl⟩ fr => ?_⟩
    subst hv
    have gg := g1.trans g2
    have hd1 : H1 d = none := fr rfl d rfl
    have hdH : H d = none := by
      cases q : H d with
      | none => rfl
      | some o => rw [g1.leH d o q] at hd1; cases hd1
    have gd : G d = none := A.sub.none hdH
    have hd2 : H2 d = some (.lst us) := g2.sub _ _ hd
    let H3 : Hp := fun a => if a = d then none else H2 a
    let G3 : Hp := fun a => if a = d then none else G2 a
    have e3 : H2 = upd H3 d (.lst us) := by
      funext a
      by_cases z : a = d
      · subst z; rw [upd_same, hd2]
      · rw [upd_ne z]; show H2 a = if a = d then none else H2 a
        rw [if_neg z]
    rw [e3]
    refine q d us G3 H3 ⟨fun a o ho => ?_, fun a o ho => ?_, fun a o ho => ?_, fun a ha hg => ?_⟩ (by show (if d = d then none else H2 d) = none; rw [if_pos rfl]) (Paired.mapP rl fun _ _ r => NoLs.nols hd r)
    · show (if a = d then none else G2 a) = some o
      rw [if_neg (fun z => by rw [z, gd] at ho; cases ho)]
      exact gg.leG _ _ ho
    · show (if a = d then none else H2 a) = some o
      rw [if_neg (fun z => by rw [z, hdH] at ho; cases ho)]
      exact gg.leH _ _ ho
    · have ho : (if a = d then none else G2 a) = some o := ho
      show (if a = d then none else H2 a) = some o
      by_cases z : a = d
      · rw [if_pos z] at ho; cases ho
      · rw [if_neg z] at ho ⊢
        exact g2.sub _ _ ho
    · show Th (H a) (if a = d then none else G2 a)
      by_cases z : a = d
      · rw [if_pos z]; exact .inl rfl
      · rw [if_neg z]; exact gg.thin a ha hg
theorem opAt_in : ∀ {ops : List Nat} {n : Nat} (s : Slot), n ∈ ops → opAt (ops.map fun i => (i, false)) n s = .dead
  | i :: r, n, s, h => by
    rw [List.map_cons]
    unfold opAt
    by_cases z : Nat.beq i n = true
    · rw [if_pos z]
      cases s <;> rfl
    · rw [if_neg z]
      rcases List.mem_cons.mp h with e | e
      · exact absurd (by rw [e]; exact Nat.beq_refl i) z
      · exact opAt_in s e
theorem wks_set {ops : List Nat} {i : Nat} (h : i ∈ ops) (ρ : Sto) (s : Slot) : Sim.wks (ρ.set i s) (ops.map fun i => (i, false)) = Sim.wks ρ (ops.map fun i => (i, false)) := by
  apply List.ext_getElem?
  intro k
  unfold Sim.wks
  rw [wksFrom_get, wksFrom_get]
  by_cases e : k = i
  · subst e
    by_cases hk : k < ρ.length
    · rw [List.getElem?_set_self hk, List.getElem?_eq_getElem hk]
      show some _ = some _
      rw [Nat.zero_add, opAt_in _ h, opAt_in _ h]
    · rw [List.getElem?_eq_none (by simpa using hk), List.getElem?_eq_none (by simpa using hk)]
  · rw [List.getElem?_set_ne (Ne.symm e)]
theorem xp_tmpApp (c : Cok X Γ N sc k) {m : Option (List α)} {mv : Option γ} {cpos : Pos} (h : XN X Γ B ρ o m) (he : XE X Γ B ρ e mv) (hbase : attributeBase o "append" X.env (eval o X.env) = eval o X.env := by rfl)
    (hfew : ((backTo cpos (starEach [e] X.env)).all (fun x => !x.1) && (backToKw cpos (keywordEach [] X.env)).all (fun x => x.1.isSome)
      && decide ([e].length + ([] : List Keyword).length + (if ([] : List Keyword).isEmpty then 0 else 1) < 30)) = true := by rfl)
    (hline : (apos.endLine == cpos.line) = true := by rfl) (hs : starEach [e] X.env = (false, eval e X.env) :: starEach [] X.env := by rfl) (hw : swapsWith (.Call (.Attribute o "append" apos) [e] [] cpos) none pos.line X.env = pure false := by rfl) :
    XP1 X Γ B ρ (.Expr (.Call (.Attribute o "append" apos) [e] [] cpos) pos) (m.bind fun xs => mv.bind fun _ => if xs.length + 1 ≤ BIG then some () else none) (fun _ => ρ) :=
  imS (ps_expr (pe_bm PySem.F.plainAttrs_list PySem.F.slot_list_append PySem.F.type_list_append mt_append h (pa_cons he pa_nil hs) hbase hfew hline hs (by rfl)) hw) fun D σ H ⟨G, s, A, e, q⟩ => by
  cases m with
  | none => cases e
  | some xs =>
    cases mv with
    | none => cases e
    | some v =>
      obtain ⟨hb, _⟩ := ite_some (show (if xs.length + 1 ≤ BIG then some () else none) = some s from e)
      refine ⟨G, xs, A, rfl, fun d vs G1 H1 g1 hd rl => ?_⟩
      have hdH : H d = none := by
        cases q : H d with
        | none => rfl
        | some o => rw [g1.leH d o q] at hd; cases hd
      have gn := g1.trans (Grow.newO g1.sub hd (.lst vs))
      have hl : vs.length = xs.length := Paired.length rl
      refine ⟨.inl ⟨rfl, vs, SqL.of upd_same⟩, G1, v, A.grow gn, rfl, fun v2 G2 H2 g2 r2 => ⟨d, vs, v2, rfl, rfl, g2.leH _ _ upd_same, by rw [hl]; exact big_lt (by omega), ?_⟩⟩
      have gg := gn.trans g2
      have gd1 : G1 d = none := g1.sub.none hd
      have gd2 : G2 d = none := (g2.thin d (by rw [upd_same]; simp) gd1).no upd_same
      refine q G2 _ σ (A.grow ⟨gg.leG, fun a o ho => ?_, fun a o ho => ?_, gg.thin⟩)
      · rw [upd_ne (fun z => by rw [z, hdH] at ho; cases ho)]
        exact gg.leH _ _ ho
      · rw [upd_ne (fun z => by rw [z, gd2] at ho; cases ho)]
        exact gg.sub _ _ ho
end
end Sim
namespace Sim
open PySem PySem.Spec PyProof.Rows L2
open Rp (rep)
open Ow (own)
open RpA (repA stoA)
abbrev SU : Type := List ((Tt × Tt) × Bool)
def specS (Γ : Gm) {τ : Type} [RpA τ] (f : τ → List Tt → List Tt → SU → Option (Except Er SU)) : Sp := fun vs H Q E => ∃ G x fp p g s ws t r, Sub G H ∧ vs = .ref x :: ws ∧ repA Γ G ws t ∧ (∀ y ∈ fp, G y = none) ∧ own Γ G H (.ref x) fp (WS.w3 p g s) ∧ f t p g s = some r ∧ match r with
  | .ok s' => ∀ G' H' fp', GrowF fp G H G' H' → (∀ y ∈ fp', G' y = none ∧ (y ∈ fp ∨ H y = none)) → own Γ G' H' (.ref x) fp' (WS.w3 p g s') → Q .non H'
  | .error e => ∀ cls d G' H' fp' (w' : WS), GrowF fp G H G' H' → (∀ y ∈ fp', G' y = none ∧ (y ∈ fp ∨ H y = none)) → own Γ G' H' (.ref x) fp' w' → IsEr Γ e cls d H' → E cls d H'
structure CalS (Γ : Gm) (x : Str) (k : Nat) {τ : Type} [RpA τ] (f : τ → List Tt → List Tt → SU → Option (Except Er SU)) : Prop where
  ex : ∃ a fd ps, FnOk Γ.P Γ.w Γ.K Γ.mg Γ.base (L2N.CX Γ.P Γ.w) k a fd ps (specS Γ f) ∧ Meth Γ.K (Γ.C 20) x a ∧ Binds Γ.K fd ps []
abbrev ktS (n : Nat) (p g : List Tt) (W : WX) : Kt Empty Unit SU := ⟨fun l => l.elim, fun l => l.elim, fun s => ow (WS.w3 p g s) :: deads (n - 1), false, W, none⟩
abbrev stS (n : Nat) (p g : List Tt) (s : SU) : Sto := ow (WS.w3 p g s) :: deads (n - 1)
def retS : Fl SU Empty Unit SU → Option (Except Er SU)
  | .nx s => some (.ok s)
  | .err e _ => some (.error e)
  | _ => none
section
variable {Γ : Gm} {x qual : Str} {st : Stmt} {N ps : List Str} {k : Nat} {τ β : Type} [RpA τ] [Rp β] {fr : Bool} {S : Type} {sto : S → Sto}
theorem calS_of (D : DefM Γ x qual st ps) (Sc : FnScope N ps (defScope st)) {m : τ → List Tt → List Tt → SU → Option (Fl SU Empty Unit SU)} (hps : RpA.num τ + 1 = ps.length)
    (hb : ∀ (X : Cx) (B : Bs) (t : τ) (p g : List Tt) (s : SU) (M : List Addr) (W : WX), Dok X Γ B N (defScope st) k [0] W M → XB X Γ B (ktS N.length p g W) (ow (WS.w3 p g s) :: (stoA t ++ deads (N.length - RpA.num τ - 1))) (defBody st) (m t p g s) (stS N.length p g)) (fm : τ → List Tt → List Tt → SU → Option (Except Er SU)) (hm : ∀ t p g s, fm t p g s = (m t p g s).bind retS) : CalS Γ x (k + 1) fm := by
  obtain ⟨a, fd, F, hM, bi⟩ := D.ex
  refine ⟨a, fd, ps, L2N.okX F Sc (fun vs H Q E h => ?_) (fun cdv A outer s H vs Q E hr h => ?_), hM, bi⟩
  · obtain ⟨G, x, fp, p, g, s, ws, t, r, h1, h2, h3, _⟩ := h
    rw [h2, List.length_cons, (RpA.okA (H := H) h3).1]
    exact hps
  · obtain ⟨G, x, fp, p, g, s, ws, t, b, h1, h2, h3, h4, h5, h6, q⟩ := h
    have hN : RpA.num τ + 1 ≤ N.length := by
      rw [hps]
      have z := congrArg List.length Sc.pre
      rw [List.length_take] at z
      omega
    subst h2
    have A0 := at_startIE (N := N) h1 h3 hN h4 h5
    refine ⟨_, hb _ ⟨G, H, fp, L2.start N (.ref x :: ws), [0]⟩ t p g s fp (fun cls d _ H => E cls d H) ⟨⟨rfl, rfl, rfl, rfl, rfl, rfl, Sc.nd, rfl, rfl, hr⟩, passes_of rfl, fun _ => rfl, L2N.takes_of rfl rfl rfl rfl, rfl, rfl, rfl, rfl⟩, ?_⟩
    rw [hm] at h6
    cases e : m t p g s with
    | none => rw [e] at h6; cases h6
    | some r =>
      rw [e] at h6
      refine ⟨G, r, A0, by first | exact e | rfl, ?_⟩
      cases r with
      | nx w' =>
        have h6 : some (Except.ok w') = some b := h6
        cases h6
        intro G' H' σ' A'
        obtain ⟨fp', q1, q2, q3⟩ := atIE_end (by omega) A'
        exact q G' H' fp' q1 q2 q3
      | bk l => exact l.elim
      | ct l => exact l.elim
      | ret b' c => cases h6
      | err e' c =>
        have h6 : some (Except.error e') = some b := h6
        cases h6
        intro cls d G' H' σ' A' ie
        obtain ⟨fp', q1, q2, q3⟩ := atIE_end (by omega) A'
        exact q cls d G' H' fp' _ q1 q2 q3 ie
theorem fun_of' {K : PySem.W.Frag} {x qual : Str} {st : Stmt} {f : Addr} {fd : FuncData} (F : FunD K x qual (defArgs st) (defBody st) (defScope st) [] [] f fd) : Fun K x qual st f fd := by
  obtain ⟨oc, od, dV, kV, doc, pm, an, cdv, ct, osl, h1, h2, h3, h4, h5⟩ := F.ex
  rcases h4 with ⟨_, h4⟩ | ⟨h4, _⟩
  · subst h4
    exact ⟨⟨oc, od, kV, doc, pm, an, cdv, ct, osl, h1, h2, h3⟩, F.kp⟩
  · exact absurd rfl h4
theorem defM_ok {y : Str} {f : Addr} {fd : FuncData} (F : FunD Γ.K x qual (defArgs st) (defBody st) (defScope st) [] [] f fd) (hC : Γ.C 20 = He.ga Γ.K y) (hf : f = He.ma Γ.K (He.ga Γ.K y) x) (hm : (He.Fa.meth y x).ok Γ.K = true)
    (h : ∀ (kV doc pm : Value) (an : Option Addr) (cdv ct : Value) (us : List Value), us.length = ps.length → bindArgs (PySem.W.fnOf x qual (defArgs st) (defBody st) (defScope st) .none kV doc pm an cdv ct) ⟨us, []⟩ = pure (ps.zip us)) : DefM Γ x qual st ps :=
  ⟨f, fd, fun_of' F, by rw [hC, hf]; exact He.meth_ok hm, fun s us _ hl => by
    rw [List.append_nil] at hl ⊢
    exact F.bindsA h s us hl⟩
theorem defC_ok {y : Str} {f : Addr} {fd : FuncData} (F : FunD Γ.K "__init__" qual (defArgs st) (defBody st) (defScope st) [] [] f fd) (hC : Γ.C 20 = He.ga Γ.K y) (hf : f = He.ma Γ.K (He.ga Γ.K y) "__init__") (hm : (He.Fa.mkr y).ok Γ.K = true) (hg : Γ.mg y = some (.ref (He.ga Γ.K y)))
    (h : ∀ (kV doc pm : Value) (an : Option Addr) (cdv ct : Value) (us : List Value), us.length = ps.length → bindArgs (PySem.W.fnOf "__init__" qual (defArgs st) (defBody st) (defScope st) .none kV doc pm an cdv ct) ⟨us, []⟩ = pure (ps.zip us)) : DefC Γ y qual st ps :=
  ⟨f, fd, fun_of' F, by rw [hC, hf]; exact He.mkr_ok hm, by rw [hC]; exact hg, fun s us _ hl => by
    rw [List.append_nil] at hl ⊢
    exact F.bindsA h s us hl⟩
theorem wb_ok {y : Str} (hC : Γ.C 20 = He.ga Γ.K y) (h1 : (He.Fa.cls y).ok Γ.K = true) (h2 : (He.Fa.noat y "pairs").ok Γ.K = true) (h3 : (He.Fa.noat y "givers").ok Γ.K = true) (h4 : (He.Fa.noat y "_suits").ok Γ.K = true) : WbT Γ :=
  ⟨by rw [hC]; exact He.cls_ok h1, by rw [hC]; exact He.noat_ok h2, by rw [hC]; exact He.noat_ok h3, by rw [hC]; exact He.noat_ok h4⟩
end
def exS {C : Type} (c : C) : Except Er SU → Except (Er × C) (Unit × SU)
  | .ok w => .ok ((), w)
  | .error e => .error (e, c)
section
variable {X : Cx} {Γ : Gm} {B : Bs} {L β C : Type} [Rp β] {F : Kt L β C} {ρ ρ' : Sto} {N : List Str} {sc : Scope} {k j : Nat} {fx : List Nat} {W : WX} {M : List Addr} {pos p p' p2 apos : Pos} {e a b o tg it elt kx : Expr} {es : List Expr} {S : Type} {sto : S → Sto}
variable {α γ δ τ : Type} [Rp α] [Rp γ] [Rp δ] [RpA τ] {fr : Bool} {x y : Str}
theorem xx_methS (d : Dok X Γ B N sc k fx W M) (T : WbT Γ) {f : τ → List Tt → List Tt → SU → Option (Except Er SU)} {mt : Option τ} {pl : Sem Bool} (cc : C) (ops : List Nat) (i : Nat) {p0 g0 : List Tt} {s0 : SU} (h : CalS Γ x j f) (hk : j ≤ k) (hi : ρ[i]? = some (ow (WS.w3 p0 g0 s0))) (hN : N[i]? = some y) (hv : Vis sc y) (ha : XA X Γ B ρ (e :: es) mt)
    (hw : Sim.wks ρ (ops.map fun i => (i, false)) = F.str cc) (hin : i ∈ ops) (hW : F.W = W := by rfl) (hd : (y == ("__debug__" : Str)) = false := by decide) (hcd : (y == ("__classdict__" : Str)) = false := by decide) (hf : ∀ p g s : V, (webF p g s).lookup x = none := by intro _ _ _; rfl)
    (hst : starEach (e :: es) X.env = (false, eval e X.env) :: starEach es X.env := by rfl) (hpl : (backTo pos (starEach es X.env)).any (·.1) = false := by rfl)
    (ht : eval (.Call (.Attribute (.Name y p) x apos) (e :: es) [] pos) X.env = (do
      let ov ← eval (.Name y p) X.env
      standAt apos.atName
      let (f, first) ← holding [ov] (getMethod ov x pl)
      callWith pos f first (backTo pos (starEach (e :: es) X.env)) (backToKw pos (keywordEach [] X.env))) := by rfl) :
    XX X Γ B F ρ (.Call (.Attribute (.Name y p) x apos) (e :: es) [] pos) (mt.bind fun t => (f t p0 g0 s0).bind fun r => some (exS cc r)) (fun s => ρ.set i (ow (WS.w3 p0 g0 s))) := by
  obtain ⟨a, fd, ps, Fo, hM, bi⟩ := h.ex
  refine imE (pe_methZ (CX := L2N.CX X.prog X.w) (E := fun σ cls d H => F.W cls d σ H) (pv_ d.toCok hN hv hd hcd) (by rw [d.hK]; exact T.cl) (by rw [d.hK]; exact hM) (by rw [d.hP, d.hw, d.hK, d.hmg, d.hbase]; exact Fo) (d.room.mono hk) (by rw [d.hK]; exact bi) (fun σ => by subst hW; exact L2N.passAt d.tk σ) ha hst hpl ht) fun σ H Q ⟨G, r, A, e, q⟩ => ?_
  cases mt with
  | none => cases e
  | some t =>
    have e : ((f t p0 g0 s0).bind fun r => some (exS cc r)) = some r := e
    cases hft : f t p0 g0 s0 with
    | none => rw [hft] at e; cases e
    | some b =>
      rw [hft] at e
      cases e
      obtain ⟨v, fp, h1, ⟨xx, dx, rfl, h2, pv, gv, sd, kvs, e1, h4, h5⟩, h3⟩ := A.getO hi
      refine ⟨_, h1, xx, dx, _, rfl, h4, hf pv gv (.ref sd), G, t, A, rfl, fun vs G1 H1 g1 r1 => ?_⟩
      obtain ⟨v', fp1, k1, own1, hg1, ch⟩ := (A.grow g1).openF hi
      rw [h1] at k1
      cases k1
      refine ⟨G1, xx, fp1, p0, g0, s0, vs, t, b, g1.sub, rfl, r1, hg1, own1, hft, ?_⟩
      cases b with
      | ok w => exact fun G2 H2 fp' gf hfp ow' => q .non G2 H2 (g1.leG.trans gf.leG) (ch WS _ (WS.w3 p0 g0 w) G2 H2 fp' gf hfp ow') rfl
      | error er =>
        intro cls dd G2 H2 fp' w' gf hfp ow' ie
        refine q cls dd G2 H2 ?_ ie
        have A2 := (ch WS _ w' G2 H2 fp' gf hfp ow').drops ops
        rw [wks_set hin, hw] at A2
        exact A2
end
end Sim
namespace TP
open PySem PySem.Spec PyProof.Rows SrtO
def ltT (a b : Str) : Bool := decide (a.cps.toList < b.cps.toList)
theorem ltT_asym {a b : Str} (h : ltT a b = true) : ltT b a = false := by
  unfold ltT at *
  simp only [decide_eq_true_eq, decide_eq_false_iff_not] at *
  exact fun z => List.lt_irrefl _ (List.lt_trans h z)
theorem ltT_ntr {a b c : Str} (h1 : ltT b a = false) (h2 : ltT c b = false) : ltT c a = false := by
  unfold ltT at *
  simp only [decide_eq_false_iff_not] at *
  exact List.not_lt.mpr (List.le_trans (List.not_lt.mp h1) (List.not_lt.mp h2))
theorem ltT_tot {a b : Str} (h1 : ltT a b = false) (h2 : ltT b a = false) : a = b := by
  unfold ltT at *
  simp only [decide_eq_false_iff_not] at *
  have : a.cps.toList = b.cps.toList := List.le_antisymm (List.not_lt.mp h2) (List.not_lt.mp h1)
  cases a
  cases b
  congr 1
  exact Array.toList_inj.mp this
theorem ltT_irr (a : Str) : ltT a a = false := by
  unfold ltT
  simp only [decide_eq_false_iff_not]
  exact List.lt_irrefl _
def lexT (p q : Str × Str) : Bool := if p.1 = q.1 then ltT p.2 q.2 else ltT p.1 q.1
theorem lexT_asym {p q : Str × Str} (h : lexT p q = true) : lexT q p = false := by
  unfold lexT at *
  by_cases e : p.1 = q.1
  · rw [if_pos e] at h
    rw [if_pos e.symm]
    exact ltT_asym h
  · rw [if_neg e] at h
    rw [if_neg (Ne.symm e)]
    exact ltT_asym h
theorem lexT_ntr {p q r : Str × Str} (h1 : lexT q p = false) (h2 : lexT r q = false) : lexT r p = false := by
  unfold lexT at *
  by_cases e1 : q.1 = p.1
  · rw [if_pos e1] at h1
    by_cases e2 : r.1 = q.1
    · rw [if_pos e2] at h2
      rw [if_pos (e2.trans e1)]
      exact ltT_ntr h1 h2
    · rw [if_neg e2] at h2
      rw [if_neg (fun z => e2 (z.trans e1.symm)), ← e1]
      exact h2
  · rw [if_neg e1] at h1
    by_cases e2 : r.1 = q.1
    · rw [if_neg (fun z => e1 (e2.symm.trans z)), e2]
      exact h1
    · rw [if_neg e2] at h2
      have h3 := ltT_ntr h1 h2
      by_cases e3 : r.1 = p.1
      · rw [e3] at h2
        exact absurd (ltT_tot h1 h2) e1
      · rw [if_neg e3]
        exact h3
theorem lexT_tot {p q : Str × Str} (h1 : lexT p q = false) (h2 : lexT q p = false) : p = q := by
  unfold lexT at *
  by_cases e : p.1 = q.1
  · rw [if_pos e] at h1
    rw [if_pos e.symm] at h2
    exact Prod.ext e (ltT_tot h1 h2)
  · rw [if_neg e] at h1
    rw [if_neg (Ne.symm e)] at h2
    exact absurd (ltT_tot h1 h2) e
theorem swo_lexT (k : Value → Str × Str) : Swo fun v u => lexT (k v) (k u) := ⟨fun _ _ h => lexT_asym h, fun _ _ _ h1 h2 => lexT_ntr h1 h2⟩
def IsPr (h : Heap) (v : Value) (x y : Str) : Prop := ∃ a o t u n, v = .ref a ∧ h.get? a = some o ∧ o.cls = .type "tuple" ∧ o.data = .seq #[.str x t, .str y u] n
theorem IsPr.keeps {h h' : Heap} {v : Value} {x y : Str} (p : IsPr h v x y) (k : ∀ b o, h.get? b = some o → o.cls = .type "tuple" → h'.get? b = some o) : IsPr h' v x y := by
  obtain ⟨a, o, t, u, n, e, ho, hc, hd⟩ := p
  exact ⟨a, o, t, u, n, e, k _ _ ho hc, hc, hd⟩
section
variable {prog : Program} {w : World} {A : Around} {E : Value → Shared → Prop} {s : Shared}
theorem pr_cmp {vs : List Value} {k : Value → Str × Str} (hp : ∀ v ∈ vs, IsPr s.heap v (k v).1 (k v).2) : SrtO.Cmp prog w A s (tuples' true) (fun p => p.1 ∈ vs) (lt2 fun v u => lexT (k v) (k u)) := by
  intro p q hm hm'
  have h1 := hp _ hm
  have h2 := hp _ hm'
  show wpAny (model prog w) A (keyLt' (tuples' true) p.1 q.1) (fun r s' => s' = s ∧ r = lexT (k p.1) (k q.1)) (fun _ _ => False) s
  unfold lexT
  generalize (k p.1).1 = x at h1 ⊢
  generalize (k p.1).2 = y at h1 ⊢
  generalize (k q.1).1 = x' at h2 ⊢
  generalize (k q.1).2 = y' at h2 ⊢
  obtain ⟨a, o, t, u, n, e, ho, hc, hd⟩ := h1
  obtain ⟨a', o', t', u', n', e', ho', hc', hd'⟩ := h2
  rw [e, e']
  refine PySem.W.kat_lt ho hd ho' hd' ?_
  show PySem.W.KatLex prog w A true (decide (2 < 2)) _ [(.str x t, .str x' t'), (.str y u, .str y' u')] 0 s
  refine PySem.W.kat_cons (SeqAt.EqAt.str_str x t x' t' prog w _ _ ?_)
  refine PySem.W.kat_go (fun e1 => ?_) (fun e1 => ?_)
  · have ex : x = x' := by simpa using e1
    refine PySem.W.kat_yes (PySem.W.kat_cons (SeqAt.EqAt.str_str y u y' u' prog w _ _ ?_))
    refine PySem.W.kat_go (fun e2 => ?_) (fun e2 => ?_)
    · have ey : y = y' := by simpa using e2
      have e3 : (if x = x' then ltT y y' else ltT x x') = false := by
        rw [if_pos ex, ey]
        exact ltT_irr _
      exact PySem.W.kat_yes (PySem.W.kat_nil ⟨rfl, e3.symm⟩)
    · have e3 : (if x = x' then ltT y y' else ltT x x') = ltT y y' := if_pos ex
      refine PySem.W.kat_no (PySem.W.kat_one _ _ (PyProof.Rows.lt_str ?_))
      exact (show s = s ∧ ltT y y' = (if x = x' then ltT y y' else ltT x x') from ⟨rfl, e3.symm⟩)
  · have ex : ¬ x = x' := by simpa using e1
    have e3 : (if x = x' then ltT y y' else ltT x x') = ltT x x' := if_neg ex
    exact PySem.W.kat_no (oneLt_str ⟨rfl, e3.symm⟩)
theorem firsts_of {h : Heap} : ∀ {vs : List Value}, (∀ v ∈ vs, ∃ x y, IsPr h v x y) → ∃ fs : List Value, PySem.W.KatTups h vs fs ∧ fs.length = vs.length ∧ ∀ f ∈ fs, ∃ x t, f = Value.str x t
  | [], _ => ⟨[], PySem.W.KatTups.nil, rfl, fun _ hm => by simp at hm⟩
  | v :: vs, hp => by
    obtain ⟨fs, h1, h2, h3⟩ := firsts_of (vs := vs) fun v' hm => hp v' (List.mem_cons_of_mem _ hm)
    obtain ⟨x, y, a, o, t, u, n, e, ho, hc, hd⟩ := hp v (List.mem_cons_self ..)
    subst e
    refine ⟨.str x t :: fs, PySem.W.KatTups.cons ho hc hd rfl h1, by rw [List.length_cons, List.length_cons, h2], fun f hm => ?_⟩
    rcases List.mem_cons.mp hm with rfl | hm
    · exact ⟨x, t, rfl⟩
    · exact h3 f hm
theorem prs_sortable {a : Addr} {vs : List Value} {k : Value → Str × Str} (h0 : 0 < vs.length) (hp : ∀ v ∈ vs, IsPr s.heap v (k v).1 (k v).2) (ha : ∀ o, s.heap.get? a = some o → o.cls ≠ .type "tuple") : SortableO prog w A s a vs fun v u => lexT (k v) (k u) := by
  intro h' keep
  have hp' : ∀ v ∈ vs, IsPr h' v (k v).1 (k v).2 := fun v hm => (hp v hm).keeps fun b o e c => keep b o (fun z => by subst z; exact ha o e c) e
  obtain ⟨fs, h1, h2, h3⟩ := firsts_of fun v hm => ⟨_, _, hp' v hm⟩
  refine ⟨tuples' true, fun Q E hq => ?_, pr_cmp hp'⟩
  refine PySem.W.kat_kind (T := .type "str") h1 (by omega) (fun f hm => ?_) (by rfl) ?_
  · obtain ⟨x, t, rfl⟩ := h3 f hm
    exact PySem.W.Looks.now
  · have e : (Value.type "str" != Value.type "tuple") = true := by first | decide +kernel | rfl | decide
    rw [e]
    exact hq
end
end TP
namespace L2
open PySem PySem.Spec PyProof.Rows
section
variable {X : Cx}
def kOfT (H : Hp) (v : Value) : Str × Str := match v with
  | .ref t => (match H t with | some (.tup [.str i, .str j]) => (i, j) | _ => (Str.empty, Str.empty))
  | _ => (Str.empty, Str.empty)
theorem kOfT_eq {H : Hp} {t : Addr} {i j : Str} (h : H t = some (.tup [.str i, .str j])) : kOfT H (.ref t) = (i, j) := by
  unfold kOfT
  simp only [h]
theorem call_sortedDT (hcalm : X.calm = true) : CallR X (.builtin "sorted") (fun xs H Q => ∃ (a : Addr) (kvs : List (List Key × V)) (ks : List (Str × Str)), xs = [.ref a] ∧ Rd H a (.dT kvs) ∧ kvs.map (·.1) = ks.map (fun k => [Sum.inr k.1, Sum.inr k.2]) ∧ ks.length ≤ sizeLine ∧
    ∀ (zs : List (Str × Str)) (ys : List V) (p : Addr), zs.Perm ks → zs.Pairwise (fun a b => TP.lexT b a = false) → Paired (fun y z => ∃ t, y = V.ref t ∧ H t = some (.tup [.str z.1, .str z.2])) ys zs → H p = none → Q (.ref p) (upd H p (.lst ys))) := by
  intro pins s σ H xs us Q I r q
  obtain ⟨a, kvs, ks0, ex, hd, hks, hsz, q⟩ := q
  subst ex
  obtain ⟨u, eu, rx⟩ := vals1 r
  subst eu
  cases rx
  obtain ⟨z, hs, ks, pr, o, es, ep, ho, hx, hdt, he, hn⟩ := (show ObjOk X.prog X.w H s.heap a (.dT kvs) from hd.ok I.hok)
  have l1 : es.size = ks.length := size_of_entries he
  have l2 : kvs.length = ks.length := Paired.length pr
  have l3 : ks0.length = kvs.length := by
    have := congrArg List.length hks
    simpa using this.symm
  refine Calls.call_function_entry PyProof.Rows.kind_sorted PyProof.Rows.plain_sorted PyProof.Rows.entry_sorted (PyProof.Rows.args_sorted1 _) ?_
  unfold Builtin.«sorted»
  refine wpAny_bind (m := checkCount "sorted" 1 1 _) (wpAny_pure ?_)
  refine wpAny_bind (PySem.W.kdu_collect (A := X.A.in1) (kdl_raw hs hx hdt) (I.ok.hd hcalm) ho (by omega) fun h' tk acc hk hacc => ?_)
  have ea : acc.toList = ks.map fun x => Value.ref x.2.1 := by
    have hl : acc.toList.length = ks.length := by rw [Array.length_toList, hacc.1]; exact l1
    apply List.ext_getElem?
    intro j
    rw [List.getElem?_map]
    cases hj : acc.toList[j]? with
    | none =>
      have h1 := List.getElem?_eq_none_iff.mp hj
      rw [List.getElem?_eq_none (by omega)]
      all_goals rfl
    | some v =>
      obtain ⟨en, hen, hv⟩ := hacc.2 j v (by rw [← Array.getElem?_toList]; exact hj)
      have qe := entry_at he j
      rw [hen] at qe
      cases hb : ks[j]? with
      | none =>
        rw [hb] at qe
        exact nomatch (show some en = none from qe)
      | some b =>
        rw [hb] at qe
        have e2 : en = entryOfKey (tupleKind (mixKind X.prog X.w)) b := Option.some.inj qe
        rw [hv, e2]
        all_goals rfl
  -- each of them is a pair
  have hpr : ∀ v ∈ acc.toList, ∃ t i j, v = Value.ref t ∧ H t = some (.tup [.str i, .str j]) := by
    rw [ea]
    intro v hv
    obtain ⟨x, hx, rfl⟩ := List.mem_map.mp hv
    obtain ⟨j, hj⟩ := List.mem_iff_getElem?.mp hx
    obtain ⟨p, hp, rel⟩ : ∃ p, kvs[j]? = some p ∧ H x.2.1 = some (.tup (p.1.map kV)) := by
      clear hx hv ea
      have : ∀ {kvs : List (List Key × V)} {ks : List (List Key × Addr × Value)} (pr : KT H kvs ks) (j : Nat), ks[j]? = some x → ∃ p, kvs[j]? = some p ∧ H x.2.1 = some (.tup (p.1.map kV)) := by
        intro kvs ks pr
        induction pr with
        | nil => intro j h; simp at h
        | cons h t ih =>
          intro j hj
          cases j with
          | zero =>
            have e := Option.some.inj hj
            subst e
            exact ⟨_, rfl, h.2.1⟩
          | succ j => exact ih j (by simpa using hj)
      exact this pr j hj
    have hk := congrArg (fun l => l[j]?) hks
    simp only [List.getElem?_map, hp] at hk
    cases hk0 : ks0[j]? with
    | none => rw [hk0] at hk; cases hk
    | some k =>
      rw [hk0] at hk
      have e : p.1 = [Sum.inr k.1, Sum.inr k.2] := Option.some.inj hk
      rw [e] at rel
      exact ⟨_, k.1, k.2, rfl, rel⟩
  have hmap : acc.toList.map (kOfT H) = ks0 := by
    apply List.ext_getElem?
    intro j
    rw [List.getElem?_map, ea, List.getElem?_map]
    cases hj : ks[j]? with
    | none =>
      have h1 := List.getElem?_eq_none_iff.mp hj
      rw [List.getElem?_eq_none (by omega)]
      all_goals rfl
    | some x =>
      obtain ⟨p, hp, rel⟩ : ∃ p, kvs[j]? = some p ∧ H x.2.1 = some (.tup (p.1.map kV)) := by
        have : ∀ {kvs : List (List Key × V)} {ks : List (List Key × Addr × Value)} (pr : KT H kvs ks) (j : Nat), ks[j]? = some x → ∃ p, kvs[j]? = some p ∧ H x.2.1 = some (.tup (p.1.map kV)) := by
          intro kvs ks pr
          induction pr with
          | nil => intro j h; simp at h
          | cons h t ih =>
            intro j hj
            cases j with
            | zero =>
              have e := Option.some.inj hj
              subst e
              exact ⟨_, rfl, h.2.1⟩
            | succ j => exact ih j (by simpa using hj)
        exact this pr j hj
      have hk := congrArg (fun l => l[j]?) hks
      simp only [List.getElem?_map, hp] at hk
      cases hk0 : ks0[j]? with
      | none => rw [hk0] at hk; cases hk
      | some k =>
        rw [hk0] at hk
        have e : p.1 = [Sum.inr k.1, Sum.inr k.2] := Option.some.inj hk
        rw [e] at rel
        show some (kOfT H (.ref x.2.1)) = some k
        rw [kOfT_eq rel]
  have hal : acc.toList.length = ks.length := by rw [ea, List.length_map]
  have I1 : Inv X pins σ H { s with heap := h', toks := tk } := I.kept hk
  refine wpAny_bind (wpAny_newList ?_ (by rw [hal]; omega))
  have hoL : (h'.push (seqObj "list" acc.toList.toArray 0)).get? h'.objs.size = some (seqObj "list" acc.toList.toArray 0) := Heap.get?_push_size _ rfl
  show wpAny _ _ _ _ _ { s with heap := h'.push (seqObj "list" acc.toList.toArray 0), toks := tk }
  have hp1 : ∀ v ∈ acc.toList, TP.IsPr (h'.push (seqObj "list" acc.toList.toArray 0)) v (kOfT H v).1 (kOfT H v).2 := fun v hv => by
    obtain ⟨t, i, j, rfl, ht⟩ := hpr v hv
    rw [kOfT_eq ht]
    obtain ⟨_, its2, r2, o2, ho2, hc2, n2, hd2⟩ := I1.hok _ _ ht
    obtain ⟨u1, u2, rfl, ri, rj⟩ := vals2 r2
    obtain ⟨t1, rfl⟩ := ri
    obtain ⟨t2, rfl⟩ := rj
    exact ⟨t, o2, t1, t2, n2, rfl, Heap.get?_push_of_some _ ho2, hc2, hd2⟩
  refine wpAny_bind (wpAny_holding (wpAny_call_entry PyProof.Rows.slot_list_sort ⟨_, hoL, rfl⟩ PyProof.Rows.entry_list_sort
    (SrtO.list_sort_ord (s := { s with heap := h'.push (seqObj "list" acc.toList.toArray 0), toks := tk }) (TP.swo_lexT (kOfT H)) hoL (by rw [hal]; omega) (fun h2 => TP.prs_sortable (s := { s with heap := h'.push (seqObj "list" acc.toList.toArray 0), toks := tk }) (by omega) hp1 fun o e => by
      have e' : some o = some (seqObj "list" acc.toList.toArray 0) := e.symm.trans hoL
      cases e'
      intro c
      exact absurd (Value.type.inj c) (by decide)) fun out g1 g2 => ⟨_, rfl, ?_⟩) (PyProof.Rows.args_list_sort _)))
  obtain ⟨e', he'⟩ := PyProof.Rows.sortedHeap_at (vs := acc.toList) (out := out.toArray) hoL
  have hout : ∀ v ∈ out, ∃ t i j, v = Value.ref t ∧ H t = some (.tup [.str i, .str j]) := fun v hv => hpr v (g2.perm.mem_iff.mp hv)
  have hys : ∃ ys : List V, Vals ys out ∧ Paired (fun y z => ∃ t, y = V.ref t ∧ H t = some (.tup [.str z.1, .str z.2])) ys (out.map (kOfT H)) := by
    clear g1 g2 he' e'
    induction out with
    | nil => exact ⟨[], .nil, .nil⟩
    | cons v r ih =>
      obtain ⟨ys, h1, h2⟩ := ih fun w hw => hout w (List.mem_cons_of_mem _ hw)
      obtain ⟨t, i, j, rfl, ht⟩ := hout v List.mem_cons_self
      exact ⟨.ref t :: ys, .cons rfl h1, .cons ⟨t, rfl, by rw [kOfT_eq ht]; exact ht⟩ h2⟩
  obtain ⟨ys, rv, pd⟩ := hys
  have lo : out.length = ks.length := by rw [g2.perm.length_eq, hal]
  have hlen : ys.length ≤ sizeLine := by
    have := rv.length
    omega
  refine wpAny_pure ⟨_, rfl, .ref h'.objs.size, upd H h'.objs.size (.lst ys), I1.laid (t' := tk) (fun b u e => ?_) (Nat.le_refl _)
    (show ObjOk X.prog X.w _ _ _ (.lst ys) from ⟨hlen, out, e', rv, he'⟩), rfl, q (out.map (kOfT H)) ys _ (by rw [← hmap]; exact g2.perm.map _) (List.pairwise_map.mpr g1) pd (I1.hok.fresh (Nat.le_refl _))⟩
  have hb : b < h'.objs.size := Heap.lt_size e
  rw [PyProof.Rows.sortedHeap_old (Nat.ne_of_lt hb) (by rw [size_push']; exact Nat.lt_succ_of_lt hb)]
  exact Heap.get?_push_of_some _ e
end
end L2
namespace TP
open PySem PySem.Spec PyProof.Rows
theorem rising_pw : ∀ {l : List Str} {p : Str}, risingS p l = true → (p :: l).Pairwise fun a b => ltT b a = false
  | [], p, _ => List.pairwise_singleton _ _
  | x :: r, p, h => by
    have h : (!ltCps x.cps.toList p.cps.toList && risingS x r) = true := h
    simp only [Bool.and_eq_true, Bool.not_eq_true'] at h
    have h1 : ltT x p = false := by
      unfold ltT
      rw [← ltCps_eq]
      exact h.1
    have ih := rising_pw h.2
    rw [List.pairwise_cons]
    refine ⟨fun y hy => ?_, ih⟩
    rcases List.mem_cons.mp hy with e | e
    · rw [e]; exact h1
    · exact ltT_ntr h1 (List.rel_of_pairwise_cons ih e)
theorem sorted_pw {l : List Str} (h : sortedS l = true) : l.Pairwise fun a b => ltT b a = false := by
  cases l with
  | nil => exact .nil
  | cons x r => exact rising_pw h
abbrev ltV (k : L2.V → Str × Str) (x y : L2.V) : Bool := lexT (k x) (k y)
theorem ltV_swo (k : L2.V → Str × Str) : SrtO.Swo (ltV k) := ⟨fun _ _ h => lexT_asym h, fun _ _ _ h1 h2 => lexT_ntr h1 h2⟩
end TP
namespace L2
open PySem PySem.Spec PyProof.Rows
def rSortedSA (K : PySem.W.Frag) : List V → Hp → VK → Prop := fun vs H Q => ∃ (a : Addr) (xs : List Str), vs = [V.ref a] ∧ SqL K H a (xs.map V.str) ∧
  ∀ (ys : List Str) (p : Addr), ys.Perm xs → ys.Pairwise (fun a b => TP.ltT b a = false) → H p = none → Q (.ref p) (upd H p (.lst (ys.map V.str)))
def rSortedTO (K : PySem.W.Frag) : List V → Hp → VK → Prop := fun vs H Q => ∃ (a : Addr) (xs : List V) (k : V → Str × Str), vs = [V.ref a] ∧ SqL K H a xs ∧ (∀ x ∈ xs, ∃ t, x = V.ref t ∧ H t = some (.tup [.str (k x).1, .str (k x).2])) ∧
  ∀ ys p, SrtO.Srtd (TP.ltV k) ys → SrtO.Stb (TP.ltV k) ys xs → H p = none → Q (.ref p) (upd H p (.lst ys))
section
variable {X : Cx}
theorem cr_sortedSA : CallR X (.builtin "sorted") (rSortedSA X.K) := by
  intro pins s σ H vs us Q I r h
  obtain ⟨a, xs, rfl, hs, q⟩ := h
  obtain ⟨its, rv, hl, hz⟩ := I.list hs
  rw [Vals.ref1 r]
  refine PyProof.Rows.sorted_strsAny hl.isList rv.strs (by rw [← rv.length]; exact hz) fun out ys h1 h2 h3 => ?_
  obtain ⟨ep, he'⟩ := PyProof.Rows.sortedAll_at s.heap its out
  have hlen : (ys.map V.str).length ≤ sizeLine := by
    rw [List.length_map, h2.length_eq]
    rw [List.length_map] at hz
    exact hz
  exact ⟨.ref _, upd H (s.heap.objs.size + 1) (.lst (ys.map V.str)), I.laid (t' := s.toks) (fun _ _ => PyProof.Rows.sortedAll_old) (Nat.le_succ _) ⟨hlen, out.toList, ep, vals_of_strs h1, he'⟩, rfl, q ys _ h2 (TP.sorted_pw h3) (I.hok.fresh (Nat.le_succ _))⟩
theorem cr_sortedTO : CallR X (.builtin "sorted") (rSortedTO X.K) := by
  intro pins s σ H vs us Q I r h
  obtain ⟨a, xs, k, rfl, hs, hx, q⟩ := h
  obtain ⟨its, rv, hl, hz⟩ := I.list hs
  obtain ⟨u, rfl, ru⟩ := vals1 r
  obtain rfl : u = Value.ref a := ru
  obtain ⟨e1, e2⟩ := refs_back rv fun x m => by
    obtain ⟨t, e, _⟩ := hx x m
    exact ⟨t, e⟩
  have hpr : ∀ v ∈ its, TP.IsPr s.heap v (k (backV v)).1 (k (backV v)).2 := fun v hv => by
    obtain ⟨t, rfl⟩ := e2 v hv
    have hm : V.ref t ∈ xs := by rw [e1]; exact List.mem_map.mpr ⟨_, hv, rfl⟩
    obtain ⟨t', e, ht⟩ := hx _ hm
    cases e
    obtain ⟨_, its2, r2, o, ho, hc, n, hd⟩ := I.hok _ _ ht
    obtain ⟨u1, u2, rfl, ri, rj⟩ := vals2 r2
    obtain ⟨t1, rfl⟩ := ri
    obtain ⟨t2, rfl⟩ := rj
    exact ⟨t, o, t1, t2, n, rfl, ho, hc, hd⟩
  refine SrtO.sorted_ord (TP.swo_lexT fun u => k (backV u)) hl.isList (by rw [← rv.length]; exact hz) (fun h2 h₁ a ha kk => ?_) fun out h1 h2 => ?_
  · refine TP.prs_sortable (s := { s with heap := h₁ }) (by omega) (fun v hm => (hpr v hm).keeps fun b o e _ => (kk b o e).2) fun o e => ?_
    have e' : some o = some (seqObj "list" its.toArray 0) := e.symm.trans ha
    cases e'
    intro c
    exact absurd (Value.type.inj c) (by decide)
  · have h3 : ∀ u ∈ out, ∃ a, u = Value.ref a := fun u hu => e2 u (h2.perm.mem_iff.mp hu)
    obtain ⟨n, hn⟩ := PyProof.Rows.sortedAll_at s.heap its out.toArray
    have hb : SrtO.Stb (TP.ltV k) (out.map backV) xs := by
      rw [e1]
      exact SrtO.Stb.map (TP.ltV_swo k) backV h2
    refine ⟨.ref _, upd H (s.heap.objs.size + 1) (.lst (out.map backV)), I.laid (t' := s.toks) (fun _ _ => PyProof.Rows.sortedAll_old) (Nat.le_succ _) ⟨?_, out, n, vals_back h3, hn⟩, rfl, q _ _ (SrtO.srtd_map h1) hb (I.hok.fresh (Nat.le_succ _))⟩
    rw [hb.len]
    exact hz
end
end L2
namespace Sim
open PySem L2
open Rp (rep)
open At1 (toV)
open KT (keys)
instance instTotTt : Tot Tt := ⟨fun a b => !TP.ltT b.s a.s, fun a b c h1 h2 => by
    simp only [Bool.not_eq_true'] at *
    exact TP.ltT_ntr h1 h2, fun a b => by
    cases q : TP.ltT b.s a.s with
    | false => rfl
    | true => rw [TP.ltT_asym q]; rfl, fun a b h1 h2 => by
    simp only [Bool.not_eq_true'] at *
    exact Tt.ext' (TP.ltT_tot h2 h1)⟩
abbrev tS (p : Tt × Tt) : Str × Str := (p.1.s, p.2.s)
theorem tS_inj {p q : Tt × Tt} (h : tS p = tS q) : p = q := Prod.ext (Tt.ext' (congrArg Prod.fst h)) (Tt.ext' (congrArg Prod.snd h))
instance instTotTP : Tot (Tt × Tt) := ⟨fun a b => !TP.lexT (tS b) (tS a), fun a b c h1 h2 => by
    simp only [Bool.not_eq_true'] at *
    exact TP.lexT_ntr h1 h2, fun a b => by
    cases q : TP.lexT (tS b) (tS a) with
    | false => rfl
    | true => rw [TP.lexT_asym q]; rfl, fun a b h1 h2 => by
    simp only [Bool.not_eq_true'] at *
    exact tS_inj (TP.lexT_tot h2 h1)⟩
theorem map_srt {α β : Type} [Tot α] (f : α → β) {lt : β → β → Bool} (hlt : ∀ a b, Tot.le a b = !lt (f b) (f a)) (tot : ∀ a b, lt a b = false → lt b a = false → a = b) {xs : List α} {ys : List β} (p : ys.Perm (xs.map f)) (s : ys.Pairwise fun a b => lt b a = false) : ys = (srt xs).map f := by
  refine List.Perm.eq_of_pairwise (le := fun a b => lt b a = false) (fun a b _ _ h1 h2 => tot a b h2 h1) s ?_ (p.trans ((srt_perm xs).map f).symm)
  rw [List.pairwise_map]
  refine (srt_pair xs).imp fun {a b} h => ?_
  rw [hlt] at h
  simpa using h
section
variable {X : Cx} {Γ : Gm} {B : Bs} {ρ : Sto} {N : List Str} {sc : Scope} {k : Nat} {pos p p' : Pos} {e a : Expr} {α : Type} [Rp α]
theorem xn_sortT (c : Cok X Γ N sc k) {m : Option (List Tt)} (ha : XR X Γ B ρ a m) (hg : Glb sc "sorted") (hm : Γ.mg "sorted" = none) (s1 : starEach [a] X.env = (false, eval a X.env) :: starEach [] X.env := by rfl) :
    XN X Γ B ρ (.Call (.Name "sorted" p) [a] [] pos) (m.bind fun xs => some (srt xs)) :=
  imE (pe_callB cr_sortedSA (c.gl hg) (by rw [c.hmg]; exact hm) PyProof.Rows.boot_sorted (pa_cons ha pa_nil s1) (he := s1)) fun σ H Q ⟨G, z, A, e, q⟩ => by
  cases m with
  | none => cases e
  | some xs =>
    cases e
    refine ⟨G, xs, A, rfl, fun l vs G1 H1 g1 hp r1 => ⟨l, xs.map (·.s), rfl, SqL.of (by rw [List.map_map, ← show vs = xs.map (V.str ∘ fun t : Tt => t.s) from r1.toV]; exact hp), fun ys q1 h1 h2 h3 => ?_⟩⟩
    have : ys = (srt xs).map (·.s) := map_srt (fun t : Tt => t.s) (lt := TP.ltT) (fun a b => rfl) (fun a b h1 h2 => TP.ltT_tot h1 h2) h1 h2
    subst this
    rw [List.map_map]
    exact q q1 _ G1 H1 g1 h3 (RpL.ofV (α := Tt) _)
theorem xn_sortDT (c : Cok X Γ N sc k) {m : Option (List ((Tt × Tt) × α))} (ha : XDT X Γ B ρ a m) (hg : Glb sc "sorted") (hm : Γ.mg "sorted" = none) (s1 : starEach [a] X.env = (false, eval a X.env) :: starEach [] X.env := by rfl) :
    XN X Γ B ρ (.Call (.Name "sorted" p) [a] [] pos) (m.bind fun d => if d.length ≤ BIG then some (srt (d.map (·.1))) else none) :=
  imE (pe_callB (call_sortedDT c.calm) (c.gl hg) (by rw [c.hmg]; exact hm) PyProof.Rows.boot_sorted (pa_cons ha pa_nil s1) (he := s1)) fun σ H Q ⟨G, z, A, e, q⟩ => by
  cases m with
  | none => cases e
  | some d =>
    obtain ⟨hl, e⟩ := ite_some (show (if d.length ≤ BIG then some (srt (d.map (·.1))) else none) = some z from e)
    subst e
    refine ⟨G, d, A, rfl, fun l kvs G1 H1 g1 hp r1 => ⟨l, kvs, (d.map (·.1)).map tS, rfl, hp, ?_, ?_, fun zs ys q1 h1 h2 h3 h4 => ?_⟩⟩
    · have : ∀ {kvs : List (List Key × V)} {d : List ((Tt × Tt) × α)}, RpT Γ G1 kvs d → kvs.map (·.1) = ((d.map (·.1)).map tS).map (fun k => [Sum.inr k.1, Sum.inr k.2]) := by
        intro kvs d r
        induction r with
        | nil => rfl
        | cons h t ih => rw [List.map_cons, List.map_cons, List.map_cons, List.map_cons, ih, h.1]; rfl
      exact this r1
    · rw [List.length_map, List.length_map]; exact big_le hl
    · have : zs = (srt (d.map (·.1))).map tS := map_srt tS (lt := TP.lexT) (fun a b => rfl) (fun a b h1 h2 => TP.lexT_tot h1 h2) h1 h2
      subst this
      refine q q1 ys _ H1 (g1.trans (Grow.tups g1.sub)) h4 ?_
      have : ∀ {ys : List V} {ws : List (Tt × Tt)}, Paired (fun y z => ∃ t, y = V.ref t ∧ H1 t = some (.tup [.str z.1, .str z.2])) ys (ws.map tS) → RpL Γ (tupd G1 H1) ys ws := by
        intro ys ws
        induction ws generalizing ys with
        | nil => intro h; cases h; exact .nil
        | cons w r ih =>
          intro h
          cases h with
          | cons h t =>
            obtain ⟨t', e1, e2⟩ := h
            exact .cons ⟨t', .str w.1.s, .str w.2.s, e1, tupd_tup g1.sub e2, rfl, rfl⟩ (ih t)
      exact this h3
theorem xn_sortPT (c : Cok X Γ N sc k) {m : Option (List (Tt × Tt))} (ha : XR X Γ B ρ a m) (hg : Glb sc "sorted") (hm : Γ.mg "sorted" = none) (s1 : starEach [a] X.env = (false, eval a X.env) :: starEach [] X.env := by rfl) :
    XN X Γ B ρ (.Call (.Name "sorted" p) [a] [] pos) (m.bind fun xs => some (srt xs)) :=
  imE (pe_callB cr_sortedTO (c.gl hg) (by rw [c.hmg]; exact hm) PyProof.Rows.boot_sorted (pa_cons ha pa_nil s1) (he := s1)) fun σ H Q ⟨G, z, A, e, q⟩ => by
  cases m with
  | none => cases e
  | some xs =>
    cases e
    refine ⟨G, xs, A, rfl, fun l vs G1 H1 g1 hp r1 => ?_⟩
    let kk : V → Str × Str := fun v => match v with
      | .ref t => (match H1 t with | some (.tup [.str x, .str y]) => (x, y) | _ => (Str.empty, Str.empty))
      | _ => (Str.empty, Str.empty)
    have hk : ∀ {v : V} {w : Tt × Tt}, rep Γ G1 v w → kk v = tS w ∧ ∃ t, v = V.ref t ∧ H1 t = some (.tup [.str w.1.s, .str w.2.s]) ∧ G1 t = some (.tup [.str w.1.s, .str w.2.s]) := by
      intro v w ⟨t, x, y, e1, e2, e3, e4⟩
      have e3 : x = .str w.1.s := rep1 e3
      have e4 : y = .str w.2.s := rep1 e4
      subst e1 e3 e4
      have h1 := g1.sub _ _ e2
      refine ⟨?_, t, rfl, h1, e2⟩
      show (match H1 t with | some (.tup [.str x, .str y]) => (x, y) | _ => (Str.empty, Str.empty)) = _
      rw [h1]
    have all : ∀ {vs : List V} {xs : List (Tt × Tt)}, RpL Γ G1 vs xs → vs.map kk = xs.map tS ∧ ∀ v ∈ vs, ∃ w : Tt × Tt, rep Γ G1 v w := by
      intro vs xs r
      induction r with
      | nil => exact ⟨rfl, fun v hv => by simp at hv⟩
      | cons h t ih =>
        refine ⟨by rw [List.map_cons, List.map_cons, ih.1, (hk h).1], fun v hv => ?_⟩
        rcases List.mem_cons.mp hv with z | z
        · rw [z]; exact ⟨_, h⟩
        · exact ih.2 v z
    obtain ⟨a1, a2⟩ := all r1
    refine ⟨l, vs, kk, rfl, SqL.of hp, fun v hv => ?_, fun ys q1 h1 h2 h3 => ?_⟩
    · obtain ⟨w, hw⟩ := a2 v hv
      obtain ⟨b1, t, b2, b3, _⟩ := hk hw
      exact ⟨t, b2, by rw [b1]; exact b3⟩
    · have pm : (ys.map kk).Perm (xs.map tS) := by rw [← a1]; exact h2.perm.map kk
      have pw : (ys.map kk).Pairwise fun a b => TP.lexT b a = false := List.pairwise_map.mpr h1
      have hy : ys.map kk = (srt xs).map tS := map_srt tS (lt := TP.lexT) (fun a b => rfl) (fun a b h1 h2 => TP.lexT_tot h1 h2) pm pw
      refine q q1 ys G1 H1 g1 h3 ?_
      have a3 : ∀ v ∈ ys, ∃ w : Tt × Tt, rep Γ G1 v w := fun v hv => a2 v (h2.perm.mem_iff.mp hv)
      clear h1 h2 pm pw
      generalize srt xs = zs at hy
      induction ys generalizing zs with
      | nil => cases zs with
        | nil => exact .nil
        | cons z r => cases hy
      | cons v r ih => cases zs with
        | nil => cases hy
        | cons z s =>
          obtain ⟨w, hw⟩ := a3 v (by simp)
          have e1 := (List.cons.inj hy).1
          have e2 := (List.cons.inj hy).2
          rw [(hk hw).1] at e1
          have : w = z := tS_inj e1
          subst this
          exact .cons hw (ih (fun u hu => a3 u (by simp [hu])) s e2)
end
end Sim
namespace Sim
open PySem L2
open Rp (rep)
open At1 (toV)
open K1 (key)
open KT (keys)
open Ow (own)
open RpA (repA stoA)
section
variable {X : Cx} {Γ : Gm} {B : Bs} {L β C : Type} [Rp β] {F : Kt L β C} {ρ ρ' : Sto} {N : List Str} {sc : Scope} {k j : Nat} {fx : List Nat} {W : WX} {M : List Addr} {pos p p' p2 apos : Pos} {e a b o tg it elt kx : Expr} {es : List Expr} {S : Type} {sto : S → Sto}
variable {α γ δ τ : Type} [Rp α] [Rp γ] [Rp δ] [RpA τ]
end
end Sim
namespace L2
open PySem PySem.Spec PyProof.Rows
section
variable {X : Cx}
def tDcT (wi : TI) (g : TG) (tt : TT) (tk tv : TE) (vs : List Nat) : TE := fun σ H Q => wi σ H fun J H1 => ∀ D, H1 D = none → ∃ W : Nat → Nat → Hp → Prop, (∃ m, W 0 m (upd H1 D (.dT []))) ∧ ∀ i m H, W i m H →
  (J.stop i H ∧ Q (.ref D) H) ∨ (J.go i H ∧ ∃ Nx : Hp → Prop, (∀ H', Nx H' → ∃ m', m' < m ∧ W (i + 1) m' H') ∧ ∀ x H', J.yld i H x H' → g x (wipe σ vs) H' fun σ2 H2 => wipe σ2 vs = wipe σ vs ∧ tt σ2 H2 fun b H3 =>
    if b = true then tk σ2 H3 fun y H4 => tv σ2 H4 fun z H5 => ∃ kvs k b, y = .ref b ∧ H5 b = some (.tup (k.map kV)) ∧ H5 D = some (.dT kvs) ∧ kvs.length < sizeLine ∧ Nx (upd H5 D (.dT (putK kvs k z))) else Nx H3)
end
end L2
namespace Sim
open PySem PySem.Spec PyProof.Rows L2
open Rp (rep)
open At1 (toV)
open K1 (key)
open KT (keys)
open Ow (own)
open RpA (repA stoA)
def cTN (Γ : Gm) (B : Bs) (ρ : Sto) {κ α : Type} [KT κ] [Rp α] (m : Option (List (κ × α))) : TE := fun σ H Q => ∃ G xs, At Γ B ρ G H σ ∧ m = some xs ∧ ∀ p vs G1 H1, Grow G H G1 H1 → H1 p = none → RpT Γ G1 vs xs → Q (.ref p) (upd H1 p (.dT vs))
section
variable {X : Cx} {Γ : Gm} {B : Bs} {L β C : Type} [Rp β] {F : Kt L β C} {ρ ρ' : Sto} {N : List Str} {sc : Scope} {k : Nat} {fx : List Nat} {W : WX} {M : List Addr} {pos p p' p2 : Pos} {e a b o tg it elt kx vx : Expr} {es : List Expr} {S : Type} {sto : S → Sto}
variable {α γ κ : Type} [Rp α] [Rp γ] [KT κ] [Rp κ] [TKey κ] [DecidableEq κ]
end
end Sim
namespace Sim
open PySem L2
open Rp (rep)
open At1 (toV)
open Ow (own)
open RpA (repA stoA)
@[irreducible] def pins {α : Type} (xs : List α) (i : Int) (y : α) : Option (List α) := if xs.length + 1 ≤ BIG ∧ 0 ≤ i ∧ i.natAbs < 1073741824 then some (xs.take i.toNat ++ [y] ++ xs.drop i.toNat) else none
section
variable {X : Cx} {Γ : Gm} {B : Bs} {ρ : Sto} {N : List Str} {sc : Scope} {k : Nat} {fx : List Nat} {W : WX} {M : List Addr} {pos p p' p2 : Pos} {e a : Expr} {α : Type} [Rp α]
end
end Sim
namespace Sim
open PySem L2
open Rp (rep)
open At1 (toV)
open Ow (own)
open RpA (repA stoA)
def bInt (b : Bool) : Int := if b then 1 else 0
def maxL (xs : List Int) : Option Int := match xs with
  | [] => none
  | x :: r => some (r.foldl max x)
section
variable {X : Cx} {Γ : Gm} {B : Bs} {L β C : Type} [Rp β] {F : Kt L β C} {ρ ρ' : Sto} {N : List Str} {sc : Scope} {k : Nat} {fx : List Nat} {W : WX} {M : List Addr} {pos pos' p p' p2 : Pos} {e a b o tg it elt kx : Expr} {st : Stmt} {sts suite : List Stmt} {b₀ : Stmt} {es : List Expr} {S Sx : Type} {sto : S → Sto}
end
end Sim
namespace Sim
open PySem L2
open Rp (rep)
open At1 (toV)
open Ow (own)
open RpA (repA stoA)
section
variable {X : Cx} {Γ : Gm} {B : Bs} {ρ : Sto} {N : List Str} {sc : Scope} {k j : Nat} {pos p p' : Pos} {e a b : Expr} {es : List Expr} {x y : Str} {α τ : Type} [Rp α] [RpA τ]
theorem xn_callN [NoLs α] (c : Cok X Γ N sc k) {f : τ → Option (List α)} {mt : Option τ} (h : Cal Γ x j true f) (hk : j ≤ k) (hg : Glb sc x) (ha : XA X Γ B ρ (e :: es) mt) (hdb : (x == ("__debug__" : Str)) = false := by decide) (he : starEach (e :: es) X.env = (false, eval e X.env) :: starEach es X.env := by rfl) (hpl : (backTo pos (starEach es X.env)).any (·.1) = false := by rfl) :
    XN X Γ B ρ (.Call (.Name x p) (e :: es) [] pos) (mt.bind f) := by
  obtain ⟨a, fd, ps, F, hm, kp, bi⟩ := h.ex
  refine imE (pe_call (dvs := []) (CX := CX0) (E := E0) (by rw [c.hP, c.hw, c.hK, c.hmg, c.hbase]; exact F) (c.room.mono hk) (c.gl hg) (by rw [c.hmg]; exact hm) (by rw [c.hK]; exact kp) (by rw [c.hK]; exact bi) .nil pass0 ha hdb he hpl) fun σ H Q ⟨G, z, A, e, q⟩ => ?_
  cases mt with
  | none => cases e
  | some t =>
    refine ⟨G, t, A, rfl, fun vs G1 H1 g1 r1 => ?_⟩
    show specP Γ true f (vs ++ []) H1 Q E0
    rw [List.append_nil]
    refine ⟨G1, t, z, g1.sub, r1, e, fun v' G2 H2 g2 ⟨d, us, hv, hd, rl⟩ fr => ?_⟩
    subst hv
    have gg := g1.trans g2
    have hd1 : H1 d = none := fr rfl d rfl
    have hdH : H d = none := by
      cases q : H d with
      | none => rfl
      | some o => rw [g1.leH d o q] at hd1; cases hd1
    have gd : G d = none := A.sub.none hdH
    have hd2 : H2 d = some (.lst us) := g2.sub _ _ hd
    let H3 : Hp := fun a => if a = d then none else H2 a
    let G3 : Hp := fun a => if a = d then none else G2 a
    have e3 : H2 = upd H3 d (.lst us) := by
      funext a
      by_cases z : a = d
      · subst z; rw [upd_same, hd2]
      · rw [upd_ne z]; show H2 a = if a = d then none else H2 a
        rw [if_neg z]
    rw [e3]
    refine q d us G3 H3 ⟨fun a o ho => ?_, fun a o ho => ?_, fun a o ho => ?_, fun a ha hg => ?_⟩ (by show (if d = d then none else H2 d) = none; rw [if_pos rfl]) (Paired.mapP rl fun _ _ r => NoLs.nols hd r)
    · show (if a = d then none else G2 a) = some o
      rw [if_neg (fun z => by rw [z, gd] at ho; cases ho)]
      exact gg.leG _ _ ho
    · show (if a = d then none else H2 a) = some o
      rw [if_neg (fun z => by rw [z, hdH] at ho; cases ho)]
      exact gg.leH _ _ ho
    · have ho : (if a = d then none else G2 a) = some o := ho
      show (if a = d then none else H2 a) = some o
      by_cases z : a = d
      · rw [if_pos z] at ho; cases ho
      · rw [if_neg z] at ho ⊢
        exact g2.sub _ _ ho
    · show Th (H a) (if a = d then none else G2 a)
      by_cases z : a = d
      · rw [if_pos z]; exact .inl rfl
      · rw [if_neg z]; exact gg.thin a ha hg
end
end Sim
namespace Sim
open PySem L2
open Rp (rep)
open At1 (toV)
section
variable {X : Cx} {Γ : Gm} {B : Bs} {ρ ρ' : Sto} {N : List Str} {sc : Scope} {k : Nat} {fx : List Nat} {W : WX} {M : List Addr} {pos p p' p2 : Pos} {e a b o tg it elt : Expr} {es : List Expr} {S : Type} {sto : S → Sto}
variable {α β γ : Type} [Rp α] [Rp β] [Rp γ]
end
theorem o_isnotB {Γ : Gm} : Op2 Γ (fun x y H Q => ∃ a b, x = V.bl a ∧ y = V.bl b ∧ Q (V.bl (!decide (a = b))) H) fun (i j : Bool) => some (!decide (i = j)) := op2_pure fun p q z H Q e k => ⟨p, q, rfl, rfl, by cases e; exact k⟩
section
variable {X : Cx} {Γ : Gm} {B : Bs} {ρ : Sto} {N : List Str} {sc : Scope} {k : Nat} {fx : List Nat} {W : WX} {M : List Addr} {pos p : Pos} {α : Type} [Rp α]
end
end Sim
namespace Sim
open PySem L2
open Rp (rep)
open At1 (toV)
open Dat (toD)
structure R2 (α β : Type) where
  a : α
  b : β
  deriving DecidableEq
structure R4 (α β γ δ : Type) where
  a : α
  b : β
  c : γ
  d : δ
  deriving DecidableEq
instance instRpR2 {α β : Type} [Rp α] [Rp β] : Rp (R2 α β) := ⟨fun Γ G v p => ∃ a x y, v = .ref a ∧ G a = some (.lst [x, y]) ∧ rep Γ G x p.a ∧ rep Γ G y p.b, fun e ⟨a, x, y, h1, h2, h3, h4⟩ => ⟨a, x, y, h1, e _ _ h2, Rp.mono e h3, Rp.mono e h4⟩⟩
instance instRpR4 {α β γ δ : Type} [Rp α] [Rp β] [Rp γ] [Rp δ] : Rp (R4 α β γ δ) := ⟨fun Γ G v p => ∃ a x y z t, v = .ref a ∧ G a = some (.lst [x, y, z, t]) ∧ rep Γ G x p.a ∧ rep Γ G y p.b ∧ rep Γ G z p.c ∧ rep Γ G t p.d, fun e ⟨a, x, y, z, t, h1, h2, h3, h4, h5, h6⟩ => ⟨a, x, y, z, t, h1, e _ _ h2, Rp.mono e h3, Rp.mono e h4, Rp.mono e h5, Rp.mono e h6⟩⟩
instance {α β : Type} [Rp α] [DecidableEq α] [Dat α] [Rp β] [DecidableEq β] [Dat β] : Dat (R2 α β) := ⟨fun p => .list [toD p.a, toD p.b], max (Dat.dep α) (Dat.dep β) + 1, fun ⟨a, x, y, h1, h2, h3, h4⟩ => by
    subst h1; exact .lst (SqL.of h2) (.cons (Dat.reads h3) (.cons (Dat.reads h4) .nil)), fun p => by simp only [PyData.canLay0, PyData.canLayAll0]; rw [Dat.lay p.a, Dat.lay p.b]; rfl, fun p => by
    simp only [PyData.depth, PyData.depthAll]
    have h1 := Dat.deep p.a
    have h2 := Dat.deep p.b
    omega, fun a b => by
    simp only [PyData.eqv, PyData.eqvAll, Bool.and_true]
    rw [Dat.eqv a.a b.a, Dat.eqv a.b b.b, ← Bool.decide_and]
    exact decide_eq_decide.mpr ⟨fun ⟨h1, h2⟩ => by cases a; cases b; cases h1; cases h2; rfl, fun h => by rw [h]; exact ⟨rfl, rfl⟩⟩⟩
instance {α β γ δ : Type} [Rp α] [DecidableEq α] [Dat α] [Rp β] [DecidableEq β] [Dat β] [Rp γ] [DecidableEq γ] [Dat γ] [Rp δ] [DecidableEq δ] [Dat δ] : Dat (R4 α β γ δ) := ⟨fun p => .list [toD p.a, toD p.b, toD p.c, toD p.d], max (Dat.dep α) (max (Dat.dep β) (max (Dat.dep γ) (Dat.dep δ))) + 1, fun ⟨a, x, y, z, t, h1, h2, h3, h4, h5, h6⟩ => by
    subst h1; exact .lst (SqL.of h2) (.cons (Dat.reads h3) (.cons (Dat.reads h4) (.cons (Dat.reads h5) (.cons (Dat.reads h6) .nil)))), fun p => by simp only [PyData.canLay0, PyData.canLayAll0]; rw [Dat.lay p.a, Dat.lay p.b, Dat.lay p.c, Dat.lay p.d]; rfl, fun p => by
    simp only [PyData.depth, PyData.depthAll]
    have h1 := Dat.deep p.a
    have h2 := Dat.deep p.b
    have h3 := Dat.deep p.c
    have h4 := Dat.deep p.d
    omega, fun a b => by
    simp only [PyData.eqv, PyData.eqvAll, Bool.and_true]
    rw [Dat.eqv a.a b.a, Dat.eqv a.b b.b, Dat.eqv a.c b.c, Dat.eqv a.d b.d, ← Bool.decide_and, ← Bool.decide_and, ← Bool.decide_and]
    exact decide_eq_decide.mpr ⟨fun ⟨h1, h2, h3, h4⟩ => by cases a; cases b; cases h1; cases h2; cases h3; cases h4; rfl, fun h => by rw [h]; exact ⟨rfl, rfl, rfl, rfl⟩⟩⟩
section
variable {X : Cx} {Γ : Gm} {B : Bs} {ρ ρ' : Sto} {N : List Str} {sc : Scope} {k : Nat} {fx : List Nat} {W : WX} {M : List Addr} {pos p p' : Pos} {e a b c d : Expr}
variable {α γ δ ε : Type} [Rp α] [Rp γ] [Rp δ] [Rp ε]
theorem xe_r4 {ma : Option α} {mb : Option γ} {mc : Option δ} {md : Option ε} (ha : XE X Γ B ρ a ma) (hb : XE X Γ B ρ b mb) (hc : XE X Γ B ρ c mc) (hd : XE X Γ B ρ d md) (s1 : starEach [a, b, c, d] X.env = (false, eval a X.env) :: starEach [b, c, d] X.env := by rfl)
    (s2 : starEach [b, c, d] X.env = (false, eval b X.env) :: starEach [c, d] X.env := by rfl) (s3 : starEach [c, d] X.env = (false, eval c X.env) :: starEach [d] X.env := by rfl) (s4 : starEach [d] X.env = (false, eval d X.env) :: starEach [] X.env := by rfl) :
    XE X Γ B ρ (.List [a, b, c, d] pos) (ma.bind fun x => mb.bind fun y => mc.bind fun z => md.bind fun t => some (R4.mk x y z t)) :=
  imE (pe_lst (pa_cons ha (pa_cons hb (pa_cons hc (pa_cons hd pa_nil s4) s3) s2) s1)) fun σ H Q ⟨G, z, A, e, q⟩ => by
  cases ma with
  | none => cases e
  | some x =>
    cases mb with
    | none => cases e
    | some y =>
      cases mc with
      | none => cases e
      | some w =>
        cases md with
        | none => cases e
        | some t =>
          cases e
          refine ⟨G, x, A, rfl, fun v1 G1 H1 g1 r1 => ⟨G1, y, A.grow g1, rfl, fun v2 G2 H2 g2 r2 => ⟨G2, w, A.grow (g1.trans g2), rfl, fun v3 G3 H3 g3 r3 => ⟨G3, t, A.grow ((g1.trans g2).trans g3), rfl, fun v4 G4 H4 g4 r4 => ⟨(by show 4 ≤ sizeLine; decide), fun p hp => ?_⟩⟩⟩⟩⟩
          have g5 := Grow.new g4.sub hp (.lst [v1, v2, v3, v4])
          exact q _ _ _ ((((g1.trans g2).trans g3).trans g4).trans g5) ⟨p, v1, v2, v3, v4, rfl, upd_same, Rp.mono (((g2.leG.trans g3.leG).trans g4.leG).trans g5.leG) r1, Rp.mono ((g3.leG.trans g4.leG).trans g5.leG) r2, Rp.mono (g4.leG.trans g5.leG) r3, Rp.mono g5.leG r4⟩
end
section
variable {X : Cx} {Γ : Gm} {B : Bs} {ρ : Sto} {N : List Str} {sc : Scope} {k : Nat} {fx : List Nat} {pos : Pos} {elt it : Expr} {α γ : Type} [Rp α] [Rp γ]
end
end Sim
namespace Sim
open PySem L2
open Rp (rep)
open At1 (toV)
def lc2M {α β γ : Type} (ys : α → Option (List β)) (f : α → β → Option γ) : List α → Option (List γ)
  | [] => some []
  | x :: r => (ys x).bind fun bs => (lcM (fun _ => some true) (f x) bs).bind fun us => (lc2M ys f r).bind fun vs => some (us ++ vs)
@[irreducible] def lc2B {α β γ : Type} (ys : α → Option (List β)) (f : α → β → Option γ) (xs : List α) : Option (List γ) := (lc2M ys f xs).bind fun zs => if zs.length ≤ BIG then some zs else none
section
variable {X : Cx} {Γ : Gm} {B : Bs} {ρ : Sto} {N : List Str} {sc : Scope} {k : Nat} {fx : List Nat} {pos : Pos} {elt it it1 : Expr} {α β γ : Type} [Rp α] [Rp β] [Rp γ]
end
end Sim
namespace Sim
open PySem PySem.Spec PyProof.Rows L2
open Rp (rep)
open At1 (toV)
open K1 (key)
section
variable {X : Cx} {Γ : Gm} {B : Bs} {ρ : Sto} {N : List Str} {sc : Scope} {k : Nat} {fx : List Nat} {W : WX} {M : List Addr} {pos : Pos} {a b : Expr} {κ α : Type} [K1 κ] [At1 κ] [KAt κ] [Rp α]
end
def rRemD (K : PySem.W.Frag) : V → List V → Hp → VK → Prop := fun x ys H Q => ∃ (l : Addr) (xs : List V) (y : V) (ds : List PyData) (d : PyData) (j : Nat), x = .ref l ∧ ys = [y] ∧ H l = some (.lst xs) ∧ DpAll K H xs ds ∧ Dp K H y d ∧
  SeqAt.shaped (.list ds) = true ∧ SeqAt.shaped d = true ∧ (∃ c, ds[j]? = some c ∧ PyData.eqv c d = true) ∧ (∀ i c, i < j → ds[i]? = some c → PyData.eqv c d = false) ∧ Q .non (upd H l (.lst (xs.eraseIdx j)))
@[irreducible] def premove {α : Type} [DecidableEq α] (xs : List α) (x : α) : Option (List α) := if x ∈ xs ∧ xs.length ≤ BIG then some (xs.eraseIdx (xs.findIdx fun y => decide (y = x))) else none
section
variable {X : Cx} {Γ : Gm} {B : Bs} {ρ : Sto} {N : List Str} {sc : Scope} {k : Nat} {fx : List Nat} {W : WX} {M : List Addr} {pos p p' : Pos} {e : Expr} {α : Type} [Rp α] [DecidableEq α] [Dat α]
open Dat (toD)
end
section
variable {X : Cx} {Γ : Gm} {B : Bs} {ρ : Sto} {N : List Str} {sc : Scope} {k : Nat} {fx : List Nat} {W : WX} {M : List Addr} {pos p p' : Pos} {e : Expr} {α S : Type} [Rp α] {sto : S → Sto}
end
end Sim
namespace Sim
open PySem L2
open Rp (rep)
section
variable {X : Cx} {Γ : Gm} {B : Bs} {ρ : Sto} {N : List Str} {sc : Scope} {k : Nat} {fx : List Nat} {W : WX} {M : List Addr} {pos p p' : Pos} {e : Expr} {S α γ : Type} [Rp α] [Rp γ]
end
end Sim
namespace Sim
open PySem L2
open Rp (rep)
open At1 (toV)
open Ow (own)
open RpA (repA stoA)
def specZ (Γ : Gm) {τ β Z δ : Type} [RpA τ] [Rp β] [I : Ow δ] (mk : Z → δ) (f : τ → Z → Option (β × Z)) : Sp := fun vs H Q _ => ∃ G t z b z' ws p fp, Sub G H ∧ vs = .ref p :: ws ∧ repA Γ G ws t ∧ (∀ x ∈ fp, G x = none) ∧ own Γ G H (.ref p) fp (mk z) ∧ f t z = some (b, z') ∧
  ∀ v G' H' fp', GrowF fp G H G' H' → rep Γ G' v b → (∀ y ∈ fp', G' y = none ∧ (y ∈ fp ∨ H y = none)) → own Γ G' H' (.ref p) fp' (mk z') → Q v H'
structure CalZ (Γ : Gm) (x : Str) (k : Nat) {τ β Z δ : Type} [RpA τ] [Rp β] [I : Ow δ] (mk : Z → δ) (f : τ → Z → Option (β × Z)) : Prop where
  ex : ∃ a fd ps, FnOk Γ.P Γ.w Γ.K Γ.mg Γ.base CX0 k a fd ps (specZ Γ mk f) ∧ Γ.mg x = some (.ref a) ∧ PySem.W.keepIn Γ.K (.ref a) = true ∧ Binds Γ.K fd ps []
class Adr {δ : Type} (I : Ow δ) : Prop where
  adr : ∀ {Γ : Gm} {G H : Hp} {v : V} {fp : List Addr} {a : δ}, I.own Γ G H v fp a → ∃ p, v = .ref p
section
variable {Γ : Gm} {x : Str} {st : Stmt} {N ps : List Str} {k : Nat} {τ β Z δ : Type} [RpA τ] [Rp β] [I : Ow δ] {mk : Z → δ}
abbrev ktZ (β : Type) {Z δ : Type} [Ow δ] (mk : Z → δ) (n : Nat) : Kt Empty β Z := ⟨fun l => l.elim, fun l => l.elim, fun c => ow (mk c) :: deads (n - 1), false, fun _ _ _ _ => False, none⟩
end
def cAF (Γ : Gm) (B : Bs) (ρ : Sto) {τ S : Type} [RpA τ] (m : Option (τ × S)) (sto : S → Sto) : TA := fun σ H Q => ∃ G t s, At Γ B ρ G H σ ∧ m = some (t, s) ∧ ∀ vs G' H', Le G G' → At Γ B (sto s) G' H' σ → repA Γ G' vs t → Q vs H'
abbrev XAF (X : Cx) (Γ : Gm) (B : Bs) (ρ : Sto) (es : List Expr) {τ S : Type} [RpA τ] (m : Option (τ × S)) (sto : S → Sto) : Prop := PA X es (cAF Γ B ρ m sto)
section
variable {X : Cx} {Γ : Gm} {B : Bs} {L β C : Type} [Rp β] {F : Kt L β C} {ρ ρ' : Sto} {N : List Str} {sc : Scope} {k j : Nat} {fx : List Nat} {W : WX} {M : List Addr} {pos p p' p2 : Pos} {e a b o tg it elt kx : Expr} {st : Stmt} {sts rest body : List Stmt} {es : List Expr} {x : Str} {S S1 S2 : Type} {sto : S → Sto} {sto1 : S1 → Sto} {sto2 : S2 → Sto}
variable {α γ τ : Type} [Rp α] [Rp γ] [RpA τ]
end
end Sim
namespace Sim
open PySem L2
open Rp (rep)
open At1 (toV)
open Ow (own)
open RpA (repA stoA)
def AtD (Γ : Gm) (B : Bs) (ρ : Sto) (G H : Hp) (σ : L2.St) (D : Addr) : Prop := At Γ B ρ G H σ ∧ ∃ φ, SlotsOk Γ G H σ ρ φ ∧ (∀ i, ∀ a ∈ φ i, G a = none ∧ (B.H a = none ∨ a ∈ B.M)) ∧ ∀ i, D ∉ φ i
theorem AtD.of {Γ : Gm} {B : Bs} {ρ : Sto} {G H : Hp} {σ : L2.St} {D : Addr} (A : At Γ B ρ G H σ) (h : H D = none) : AtD Γ B ρ G H σ D := by
  obtain ⟨φ, h1, h3⟩ := A.slots
  exact ⟨A, φ, h1, h3, fun i hm => h1.there i D hm h⟩
theorem AtD.put {Γ : Gm} {B : Bs} {ρ : Sto} {G H : Hp} {σ : L2.St} {D : Addr} {o : HO} (A : AtD Γ B ρ G H σ D) (hG : G D = none) (hB : B.H D = none) : AtD Γ B ρ G (upd H D o) σ D := by
  obtain ⟨A, φ, h1, h3, h4⟩ := A
  have kp : ∀ i, ∀ x ∈ φ i, ∀ u, H x = some u → upd H D o x = some u := fun i x hx u e => by
    rw [upd_ne fun z => h4 i (by rw [← z]; exact hx)]; exact e
  refine ⟨⟨fun a u e => ?_, A.le, fun a u ha e => ?_, fun a ha => ?_, A.thin, ⟨φ, h1.grow (.refl _) kp, h3⟩, A.fix⟩, φ, h1.grow (.refl _) kp, h3, h4⟩
  · rw [upd_ne fun z => by rw [z, hG] at e; cases e]; exact A.sub a u e
  · rw [upd_ne fun z => by rw [z, hB] at e; cases e]; exact A.keep a u ha e
  · by_cases z : a = D
    · rw [z, upd_same]; simp
    · rw [upd_ne z]; exact A.live a ha
theorem AtD.base {Γ : Gm} {B : Bs} {ρ : Sto} {G H : Hp} {σ : L2.St} {D : Addr} {u : HO} (A : AtD Γ B ρ G H σ D) (hD : H D = some u) (hG : G D = none) (nt : ∀ vs, u ≠ .tup vs) : ∃ B', At Γ B' ρ G H σ ∧ ∀ ρ' G' H', Le G G' → At Γ B' ρ' G' H' σ → AtD Γ B ρ' G' H' σ D ∧ H' D = some u ∧ G' D = none := by
  obtain ⟨A, φ, h1, h3, h4⟩ := A
  let M' : List Addr := (List.range ρ.length).flatMap φ
  have hM : ∀ {a : Addr}, a ∈ M' → ∃ i, a ∈ φ i := fun {a} h => by
    obtain ⟨i, _, hi⟩ := List.mem_flatMap.mp h
    exact ⟨i, hi⟩
  have hM2 : ∀ {i : Nat} {a : Addr}, a ∈ φ i → a ∈ M' := fun {i a} h => by
    refine List.mem_flatMap.mpr ⟨i, List.mem_range.mpr ?_, h⟩
    refine Classical.byContradiction fun z => ?_
    rw [h1.out i (by omega)] at h
    cases h
  refine ⟨⟨G, H, M', σ, B.fx⟩, ⟨A.sub, .refl _, fun _ _ _ h => h, fun _ h => h, fun _ _ _ h => .inl h, ⟨φ, h1, fun i a ha => ⟨(h3 i a ha).1, .inr (hM2 ha)⟩⟩, fun _ _ => rfl⟩, fun ρ' G' H' lG A' => ?_⟩
  have outM : ∀ {a : Addr}, a ∉ B.M → B.H a ≠ none → a ∉ M' := fun {a} hm hb h => by
    obtain ⟨i, hi⟩ := hM h
    rcases (h3 i a hi).2 with z | z
    · exact hb z
    · exact hm z
  have DM : D ∉ M' := fun h => by
    obtain ⟨i, hi⟩ := hM h
    exact h4 i hi
  have thin : ∀ a, a ∉ M' → H a ≠ none → G a = none → Th (H a) (G' a) := fun a => A'.thin a
  obtain ⟨φ', k1, k3⟩ := A'.slots
  have k3' : ∀ i, ∀ a ∈ φ' i, G' a = none ∧ (B.H a = none ∨ a ∈ B.M) := fun i a ha => by
    refine ⟨(k3 i a ha).1, ?_⟩
    rcases (k3 i a ha).2 with z | z
    · left
      cases q : B.H a with
      | none => rfl
      | some o => exact absurd z (A.live a (some_ne q))
    · obtain ⟨j, hj⟩ := hM z
      exact (h3 j a hj).2
  refine ⟨⟨⟨A'.sub, A.le.trans lG, fun a o ha e => ?_, fun a ha => A'.live a (A.live a ha), fun a ha hb hg => ?_, ⟨φ', k1, k3'⟩, fun i hi => ?_⟩, φ', k1, k3', fun i hm => ?_⟩, A'.keep D u DM hD, (thin D DM (some_ne hD) hG).none fun ws e => by rw [hD] at e; exact nt ws (Option.some.inj e)⟩
  · exact A'.keep a o (outM ha (some_ne e)) (A.keep a o ha e)
  · refine (A.thin a ha hb hg).trans fun z => ?_
    have hh : H a = B.H a := by
      cases q : B.H a with
      | none => exact absurd q hb
      | some o => exact A.keep a o ha q
    rw [← hh]
    exact thin a (outM ha hb) (by rw [hh]; exact hb) z
  · have := A.fix i hi
    exact this
  · rcases (k3 i D hm).2 with z | z
    · have z : H D = none := z
      rw [hD] at z; cases z
    · exact DM z
def lcFM {α γ S : Type} (f : α → S → Option (γ × S)) : List α → S → Option (List γ × S)
  | [], s => some ([], s)
  | x :: r, s => (f x s).bind fun q => (lcFM f r q.2).bind fun t => some (q.1 :: t.1, t.2)
@[irreducible] def lcF {α γ S : Type} (f : α → S → Option (γ × S)) (xs : List α) (s : S) : Option (List γ × S) := if xs.length ≤ BIG then lcFM f xs s else none
section
variable {X : Cx} {Γ : Gm} {B : Bs} {ρ ρ' : Sto} {N : List Str} {sc : Scope} {k : Nat} {fx : List Nat} {W : WX} {M : List Addr} {pos p p' : Pos} {e a b o tg it elt : Expr} {es : List Expr} {S : Type} {sto : S → Sto}
variable {α β γ : Type} [Rp α] [Rp β] [Rp γ]
end
end Sim
namespace Sim
open PySem L2
open Rp (rep)
open At1 (toV)
open Ow (own)
open RpA (repA stoA)
structure OZ where
  l : List Int
  n : Int
  deriving DecidableEq
instance instOwOZ : Ow OZ where
  own := fun Γ G H v fp s => ∃ a b, v = .ref a ∧ fp = [a, b] ∧ a ≠ b ∧ H a = some (.lst [.ref b, .int s.n]) ∧ H b = some (.lst (s.l.map V.int))
  stay := fun ⟨a, b, h1, h2, h3, h4, h5⟩ e k => ⟨a, b, h1, h2, h3, k a (by rw [h2]; simp) _ h4, k b (by rw [h2]; simp) _ h5⟩
  there := fun ⟨a, b, h1, h2, h3, h4, h5⟩ x hx => by
    rw [h2] at hx
    simp only [List.mem_cons, List.not_mem_nil, or_false] at hx
    rcases hx with z | z <;> rw [z]
    · exact some_ne h4
    · exact some_ne h5
  nt := fun ⟨a, b, h1, h2, h3, h4, h5⟩ x hx ws e => by
    rw [h2] at hx
    simp only [List.mem_cons, List.not_mem_nil, or_false] at hx
    rcases hx with z | z
    · rw [z, h4] at e; cases e
    · rw [z, h5] at e; cases e
  F := Unit
  iF := inferInstance
  toF := fun _ => ()
  canF := false
  fz := fun h => by cases h
instance : Adr instOwOZ := ⟨fun ⟨a, b, h1, _⟩ => ⟨a, h1⟩⟩
section
variable {X : Cx} {Γ : Gm} {B : Bs} {L β C : Type} [Rp β] {F : Kt L β C} {ρ ρ' : Sto} {N : List Str} {sc : Scope} {k j : Nat} {fx : List Nat} {W : WX} {M : List Addr} {pos p p' p1 p2 : Pos} {e a b o tg it elt kx : Expr} {st : Stmt} {sts rest body : List Stmt} {es : List Expr} {x : Str} {S S1 S2 : Type} {sto : S → Sto} {sto1 : S1 → Sto} {sto2 : S2 → Sto}
variable {α γ τ : Type} [Rp α] [Rp γ] [RpA τ]
def ozPop (z : OZ) : Option (Int × OZ) := match z.l with
  | [] => none
  | y :: r => if z.l.length ≤ BIG then some (y, ⟨r, z.n⟩) else none
def absI (i : Int) : Int := if i < 0 then -i else i
@[irreducible] def ppow (i j : Int) : Option Int := if 0 ≤ j ∧ j ≤ 1000 ∧ i.natAbs < 1000000 then some (i ^ j.toNat) else none
abbrev XWF (X : Cx) (Γ : Gm) (B : Bs) (ρ : Sto) (e : Expr) {S : Type} (m : Option (Bool × S)) (sto : S → Sto) : Prop := PW X e (cTF Γ B ρ m sto)
def cLF (Γ : Gm) (B : Bs) (ρ : Sto) {α S : Type} [Rp α] (m : Option (List α × S)) (sto : S → Sto) : TA := fun σ H Q => ∃ G xs s, At Γ B ρ G H σ ∧ m = some (xs, s) ∧ ∀ vs G' H', Le G G' → At Γ B (sto s) G' H' σ → RpL Γ G' vs xs → Q vs H'
abbrev XLF (X : Cx) (Γ : Gm) (B : Bs) (ρ : Sto) (es : List Expr) {α S : Type} [Rp α] (m : Option (List α × S)) (sto : S → Sto) : Prop := PA X es (cLF Γ B ρ m sto)
end
end Sim
namespace Sim
open PySem L2
open Rp (rep)
open At1 (toV)
open Ow (own)
open RpA (repA stoA)
def cNO (Γ : Gm) (B : Bs) (ρ : Sto) {δ : Type} [I : Ow δ] (m : Option δ) : TE := fun σ H Q => ∃ G z, At Γ B ρ G H σ ∧ m = some z ∧ ∀ v fp G' H', Grow G H G' H' → own Γ G' H' v fp z → (∀ x ∈ fp, H x = none ∧ G' x = none) → Q v H'
abbrev XNO (X : Cx) (Γ : Gm) (B : Bs) (ρ : Sto) (e : Expr) {δ : Type} [I : Ow δ] (m : Option δ) : Prop := PE X e (cNO Γ B ρ m)
theorem At.setNO {Γ : Gm} {B : Bs} {ρ : Sto} {G H G' H' : Hp} {σ : L2.St} {α : Type} [I : Ow α] {fp : List Addr} {v : V} {a : α} {i : Nat} (A : At Γ B ρ G H σ) (g : Grow G H G' H') (hi : i < ρ.length) (hp : ∀ x ∈ fp, H x = none ∧ G' x = none) (r : own Γ G' H' v fp a) (nf : i ∉ B.fx) : At Γ B (ρ.set i (ow a)) G' H' (σ.set i (some v)) := by
  obtain ⟨φ, h1, h3⟩ := A.slots
  have A' := A.grow g
  have h1' := h1.grow g.leG (H' := H') fun j x _ u e => g.leH x u e
  refine ⟨A'.sub, A'.le, A'.keep, A'.live, A'.thin, ⟨setφ φ i fp, h1'.set hi ⟨v, rfl, r⟩ fun j x hj hx hm => h1.there j x hm (hp x hx).1, fun j a ha => ?_⟩, fun j hj => by
    rw [List.getElem?_set_ne fun z => nf (by rw [z]; exact hj)]
    exact A.fix j hj⟩
  rcases mem_setφ ha with ⟨_, q⟩ | ⟨_, q⟩
  · refine ⟨(hp a q).2, .inl ?_⟩
    cases z : B.H a with
    | none => rfl
    | some u => exact absurd (hp a q).1 (A.live a (some_ne z))
  · exact ⟨(g.thin a (h1.there j a q) (h3 j a q).1).none (h1.nt j a q), (h3 j a q).2⟩
def specO (Γ : Gm) {τ δ : Type} [RpA τ] [I : Ow δ] (f : τ → Option δ) : Sp := fun vs H Q _ => ∃ G t z, Sub G H ∧ repA Γ G vs t ∧ f t = some z ∧ ∀ v fp G' H', Grow G H G' H' → own Γ G' H' v fp z → (∀ x ∈ fp, H x = none ∧ G' x = none) → Q v H'
structure CalO (Γ : Gm) (x : Str) (k : Nat) {τ δ : Type} [RpA τ] [I : Ow δ] (f : τ → Option δ) : Prop where
  ex : ∃ a fd ps, FnOk Γ.P Γ.w Γ.K Γ.mg Γ.base CX0 k a fd ps (specO Γ f) ∧ Γ.mg x = some (.ref a) ∧ PySem.W.keepIn Γ.K (.ref a) = true ∧ Binds Γ.K fd ps []
section
variable {Γ : Gm} {x : Str} {st : Stmt} {N ps : List Str} {k : Nat} {τ δ : Type} [RpA τ] [I : Ow δ]
end
section
variable {X : Cx} {Γ : Gm} {B : Bs} {L β C : Type} [Rp β] {F : Kt L β C} {ρ ρ' : Sto} {N : List Str} {sc : Scope} {k j : Nat} {fx : List Nat} {W : WX} {M : List Addr} {pos p p' p1 p2 : Pos} {e a b o tg it elt kx : Expr} {st : Stmt} {sts rest body : List Stmt} {es : List Expr} {x : Str} {S S1 S2 : Type} {sto : S → Sto} {sto1 : S1 → Sto} {sto2 : S2 → Sto}
variable {α γ τ : Type} [Rp α] [Rp γ] [RpA τ]
theorem xp_setNO (d : Dok X Γ B N sc k fx W M) {δ : Type} [I : Ow δ] {m : Option δ} (i : Nat) (he : XNO X Γ B ρ e m) (hi : N[i]? = some x) (hx : Loc sc x) (hρ : Nat.ble (i + 1) ρ.length = true := by rfl) (hf : fx.contains i = false := by rfl) (hs : swapsWith e (some (.Name x p')) pos.line X.env = pure false := by rfl) :
    XP1 X Γ B ρ (.Assign [.Name x p'] e pos) m (fun z => ρ.set i (ow z)) := imS (ps_set (i := i) (by rw [d.hN]; exact d.nd) (by rw [d.hN]; exact hi) (by rw [d.hsc]; exact hx) he hs (.inl (d.hfn x))) fun D σ H ⟨G, s, A, e, q⟩ =>
  ⟨G, s, A, e, fun v fp G' H' g o hp => q G' H' _ (A.setNO g (Nat.le_of_ble_eq_true hρ) hp o fun hm => by rw [d.hfx] at hm; rw [List.contains_iff_mem.mpr hm] at hf; cases hf)⟩
end
end Sim
namespace Sim
open PySem L2
open Rp (rep)
open At1 (toV)
open Ow (own)
open RpA (repA stoA)
abbrev cps (z : Tt) : List Nat := z.s.cps.toList
def mkT (l : List Nat) (h : ∀ c ∈ l, c < 0x110000) : Tt := ⟨⟨l.toArray⟩, strOk_list (l := l) rfl h⟩
theorem cps_ok (z : Tt) : ∀ c ∈ cps z, c < 0x110000 := fun c h => z.mem h
theorem mem_joinL {S : List Nat} : ∀ {ps : List (List Nat)} {c : Nat}, c ∈ TL.joinL S ps → c ∈ S ∨ ∃ p ∈ ps, c ∈ p
  | [], c, h => by cases h
  | [p], c, h => .inr ⟨p, by simp, h⟩
  | p :: q :: r, c, h => by
    have h : c ∈ p ++ (S ++ TL.joinL S (q :: r)) := h
    rcases List.mem_append.mp h with h | h
    · exact .inr ⟨p, by simp, h⟩
    · rcases List.mem_append.mp h with h | h
      · exact .inl h
      · rcases mem_joinL h with h | ⟨x, hx, h⟩
        · exact .inl h
        · exact .inr ⟨x, by simp [List.mem_cons.mp hx], h⟩
theorem mem_spl {S : List Nat} : ∀ {xs : List Nat} {k : Nat} {acc : List Nat} {p : List Nat}, p ∈ TL.spl S k acc xs → ∀ c ∈ p, c ∈ acc ∨ c ∈ xs
  | [], k, acc, p, h, c, hc => by
    have h : p ∈ [acc] := by cases k <;> exact h
    rw [List.mem_singleton.mp h] at hc
    exact .inl hc
  | x :: r, 0, acc, p, h, c, hc => by
    have h : p ∈ (if TL.pre S (x :: r) = true then acc :: TL.spl S (S.length - 1) [] r else TL.spl S 0 (acc ++ [x]) r) := h
    by_cases q : TL.pre S (x :: r) = true
    · rw [if_pos q] at h
      rcases List.mem_cons.mp h with h | h
      · rw [h] at hc; exact .inl hc
      · rcases mem_spl h c hc with z | z
        · cases z
        · exact .inr (List.mem_cons_of_mem _ z)
    · rw [if_neg q] at h
      rcases mem_spl h c hc with z | z
      · rcases List.mem_append.mp z with z | z
        · exact .inl z
        · exact .inr (by rw [List.mem_singleton.mp z]; simp)
      · exact .inr (List.mem_cons_of_mem _ z)
  | x :: r, k + 1, acc, p, h, c, hc => by
    have h : p ∈ TL.spl S k acc r := h
    rcases mem_spl h c hc with z | z
    · exact .inl z
    · exact .inr (List.mem_cons_of_mem _ z)
theorem joinL_ok (sep : Tt) (xs : List Tt) : ∀ c ∈ TL.joinL (cps sep) (xs.map cps), c < 0x110000 := fun c h => by
  rcases mem_joinL h with h | ⟨p, hp, h⟩
  · exact cps_ok sep c h
  · obtain ⟨x, _, e⟩ := List.mem_map.mp hp
    exact cps_ok x c (by rw [e]; exact h)
@[irreducible] def sjoin (sep : Tt) (xs : List Tt) : Option Tt := if (xs.map fun x => x.s.length).sum + xs.length * sep.s.length ≤ BIG then some (mkT (TL.joinL (cps sep) (xs.map cps)) (joinL_ok sep xs)) else none
theorem spl_ok (sep x : Tt) : ∀ p ∈ TL.spl (cps sep) 0 [] (cps x), ∀ c ∈ p, c < 0x110000 := fun p hp c hc => by
  rcases mem_spl hp c hc with z | z
  · cases z
  · exact cps_ok x c z
@[irreducible] def ssplit (x sep : Tt) : Option (List Tt) := if sep.s.length = 1 ∧ sep.s.cps.all (· < 256) = true ∧ x.s.length ≤ BIG then some ((TL.spl (cps sep) 0 [] (cps x)).pmap mkT (spl_ok sep x)) else none
section
variable {X : Cx} {Γ : Gm} {B : Bs} {L β C : Type} [Rp β] {F : Kt L β C} {ρ ρ' : Sto} {N : List Str} {sc : Scope} {k j : Nat} {fx : List Nat} {W : WX} {M : List Addr} {pos apos p p' p1 p2 : Pos} {e a b o tg it elt kx : Expr} {st : Stmt} {sts rest body : List Stmt} {es : List Expr} {x : Str} {S S1 S2 : Type} {sto : S → Sto} {sto1 : S1 → Sto} {sto2 : S2 → Sto}
variable {α γ τ : Type} [Rp α] [Rp γ] [RpA τ]
def fcat : Tt → List (Option Tt) → Option Tt
  | acc, [] => some acc
  | acc, m :: r => m.bind fun x => (sadd acc x).bind fun y => fcat y r
inductive XJ (X : Cx) (Γ : Gm) (B : Bs) (ρ : Sto) : List Expr → List (Option Tt) → Prop where
  | nil : XJ X Γ B ρ [] []
  | cons {e : Expr} {m : Option Tt} {es : List Expr} {ms : List (Option Tt)} (h : XE X Γ B ρ e m) (r : XJ X Γ B ρ es ms) : XJ X Γ B ρ (e :: es) (m :: ms)
end
end Sim
namespace Sim
open PySem L2
open Rp (rep)
open At1 (toV)
open Ow (own)
open RpA (repA stoA)
section
variable {X : Cx} {Γ : Gm} {B : Bs} {L β C : Type} [Rp β] {F : Kt L β C} {ρ ρ' : Sto} {N : List Str} {sc : Scope} {k j : Nat} {fx : List Nat} {W : WX} {M : List Addr} {pos apos p p' p1 p2 : Pos} {e a b o tg it elt kx : Expr} {st : Stmt} {sts rest body : List Stmt} {es : List Expr} {x : Str} {S S1 S2 : Type} {sto : S → Sto} {sto1 : S1 → Sto} {sto2 : S2 → Sto}
variable {α γ τ : Type} [Rp α] [Rp γ] [RpA τ]
def lseq {α S : Type} : List (S → Option (α × S)) → S → Option (List α × S)
  | [], s => some ([], s)
  | f :: r, s => (f s).bind fun q => (lseq r q.2).bind fun t => some (q.1 :: t.1, t.2)
end
end Sim
namespace Sim
open PySem L2
open Rp (rep)
open At1 (toV)
section
variable {X : Cx} {Γ : Gm} {B : Bs} {ρ ρ' : Sto} {N : List Str} {sc : Scope} {k j : Nat} {fx : List Nat} {W : WX} {M : List Addr} {pos apos p p' p1 p2 p3 pt : Pos} {e a b : Expr} {es : List Expr} {S : Type} {sto : S → Sto}
variable {α γ δ : Type} [Rp α] [Rp γ] [Rp δ]
end
end Sim
namespace Sim
open PySem L2
open Rp (rep)
open At1 (toV)
section
variable {X : Cx} {Γ : Gm} {B : Bs} {L β C : Type} [Rp β] {F : Kt L β C} {ρ ρ' : Sto} {N : List Str} {sc : Scope} {k j : Nat} {fx : List Nat} {W : WX} {M : List Addr} {pos p p' p1 p2 p3 pt : Pos} {e a b : Expr} {st : Stmt} {es : List Expr} {S : Type} {sto : S → Sto}
variable {α γ δ : Type} [Rp α] [Rp γ] [Rp δ]
def fmt0 (z : Tt) : Option Tt := if z.s.length ≤ BIG then some z else none
end
end Sim
namespace Sim
open PySem L2
open Rp (rep)
open At1 (toV)
structure Tbl (Γ : Gm) (x : Str) (kvs : List (Str × Int)) : Prop where
  ex : ∃ a es n, Γ.mg x = some (.ref a) ∧ KDict Γ.K Γ.w a es n ∧ (∀ q ∈ kvs, ∃ u, PySem.W.nsIn Γ.K a q.1 = some (some u) ∧ RelV (.int q.2) u) ∧ ∀ z, z ∉ kvs.map (·.1) → PySem.W.nsIn Γ.K a z = some none
def tget (kvs : List (Str × Int)) (z : Tt) : Option Int := (kvs.find? fun q => q.1 == z.s).map (·.2)
section
variable {X : Cx} {Γ : Gm} {B : Bs} {ρ ρ' : Sto} {N : List Str} {sc : Scope} {k j : Nat} {pos p p' p1 p2 : Pos} {e a b : Expr} {x : Str}
end
end Sim
namespace L2
open PySem PySem.Spec PyProof.Rows
def ItF (K : PySem.W.Frag) (k0 : Int) (a : Addr) : It :=
  ⟨fun i H => ∃ (xs : List V) (x : V), SqL K H a xs ∧ xs[i]? = some x, fun i H v H' => ∃ T x, v = .ref T ∧ H T = none ∧ H' = upd H T (.tup [.int (k0 + (i : Int)), x]) ∧ ∀ xs, SqL K H a xs → xs[i]? = some x, fun i H => ∃ xs : List V, SqL K H a xs ∧ xs.length = i⟩
def iEnumF (K : PySem.W.Frag) (ta : TA) : TI := fun σ H R => ta σ H fun vs H1 => ∃ (a : Addr) (xs : List V) (k0 : Int), vs = [.ref a, .int k0] ∧ -(2 ^ 63) ≤ k0 ∧ k0 < 2 ^ 63 ∧ SqL K H1 a xs ∧ R (ItF K k0 a) H1
end L2
namespace Sim
open PySem L2
open Rp (rep)
open At1 (toV)
section
variable {X : Cx} {Γ : Gm} {B : Bs} {ρ : Sto} {e c : Expr} {N : List Str} {sc : Scope} {k : Nat} {p pos : Pos} {α : Type} [Rp α]
def enumFL {α : Type} (k0 : Int) (xs : List α) : List (Int × α) := xs.zipIdx.map fun q => (k0 + (q.2 : Int), q.1)
end
end Sim
namespace L2
open PySem PySem.Spec PyProof.Rows
def rLtTT (K : PySem.W.Frag) : R2 := fun x y H Q => ∃ (a b : Addr) (p q : Str × Str), x = .ref a ∧ y = .ref b ∧ SqT K H a [V.str p.1, V.str p.2] ∧ SqT K H b [V.str q.1, V.str q.2] ∧ Q (.bl (TP.lexT p q)) H
end L2
namespace Sim
open PySem L2
open Rp (rep)
open At1 (toV)
end Sim
namespace Sim
open PySem L2
open Rp (rep)
open At1 (toV)
open Ow (own)
open RpA (repA stoA)
class Cnt (τ : Type) where
  slots : τ → Sto
def prt (φ : Nat → List Addr) (n : Nat) : List Addr := (List.range n).flatMap φ
theorem mem_prt {φ : Nat → List Addr} {n : Nat} {x : Addr} : x ∈ prt φ n ↔ ∃ i, i < n ∧ x ∈ φ i := by
  unfold prt
  rw [List.mem_flatMap]
  constructor
  · rintro ⟨i, h1, h2⟩; exact ⟨i, List.mem_range.mp h1, h2⟩
  · rintro ⟨i, h1, h2⟩; exact ⟨i, List.mem_range.mpr h1, h2⟩
theorem SlotsOk.inP {Γ : Gm} {G H : Hp} {σ : St} {ρ : Sto} {φ : Nat → List Addr} (h : SlotsOk Γ G H σ ρ φ) {i : Nat} {x : Addr} (hx : x ∈ φ i) : x ∈ prt φ ρ.length := mem_prt.mpr ⟨i, by
  by_cases z : i < ρ.length
  · exact z
  · rw [h.out i (by omega)] at hx
    simp at hx, hx⟩
structure BI (c : Nat) (nm : List Str) (τ : Type) where
  t : τ
def BIow (Γ : Gm) (G H : Hp) (v : V) (fp : List Addr) (c : Nat) (nm : List Str) (ρ : Sto) : Prop := ∃ x dx vs φ, v = .ref x ∧ H dx = some (.own x) ∧ H x = some (.ins (Γ.C c) dx (nm.zip vs)) ∧ vs.length = nm.length ∧ SlotsOk Γ G H (vs.map some) ρ φ ∧ (∀ i, x ∉ φ i ∧ dx ∉ φ i) ∧ fp = x :: dx :: prt φ ρ.length
theorem BIow.stay {Γ : Gm} {G G' H H' : Hp} {v : V} {fp : List Addr} {c : Nat} {nm : List Str} {ρ : Sto} (h : BIow Γ G H v fp c nm ρ) (e : Le G G') (k : ∀ x ∈ fp, ∀ o, H x = some o → H' x = some o) : BIow Γ G' H' v fp c nm ρ := by
  obtain ⟨x, dx, vs, φ, h1, h2, h3, h4, h5, h6, h7⟩ := h
  refine ⟨x, dx, vs, φ, h1, k dx (by rw [h7]; simp) _ h2, k x (by rw [h7]; simp) _ h3, h4, h5.grow e fun i y hy o ho => k y ?_ o ho, h6, h7⟩
  rw [h7]
  exact List.mem_cons_of_mem _ (List.mem_cons_of_mem _ (h5.inP hy))
theorem BIow.there {Γ : Gm} {G H : Hp} {v : V} {fp : List Addr} {c : Nat} {nm : List Str} {ρ : Sto} (h : BIow Γ G H v fp c nm ρ) : ∀ x ∈ fp, H x ≠ none ∧ ∀ vs, H x ≠ some (.tup vs) := by
  obtain ⟨x, dx, vs, φ, h1, h2, h3, h4, h5, h6, h7⟩ := h
  intro y hy
  rw [h7] at hy
  rcases List.mem_cons.mp hy with z | hy
  · rw [z, h3]; exact ⟨by simp, fun vs e => by cases e⟩
  · rcases List.mem_cons.mp hy with z | hy
    · rw [z, h2]; exact ⟨by simp, fun vs e => by cases e⟩
    · obtain ⟨i, _, hi⟩ := mem_prt.mp hy
      exact ⟨h5.there i y hi, h5.nt i y hi⟩
instance instOwBI {c : Nat} {nm : List Str} {τ : Type} [Cnt τ] : Ow (BI c nm τ) where
  own := fun Γ G H v fp b => BIow Γ G H v fp c nm (Cnt.slots b.t)
  stay := fun h e k => h.stay e k
  there := fun h x hx => (h.there x hx).1
  nt := fun h x hx => (h.there x hx).2
  F := Unit
  iF := inferInstance
  toF := fun _ => ()
  canF := false
  fz := fun h => by cases h
instance {c : Nat} {nm : List Str} {τ : Type} [Cnt τ] : Adr (instOwBI (c := c) (nm := nm) (τ := τ)) := ⟨fun ⟨x, dx, vs, φ, h1, _⟩ => ⟨x, h1⟩⟩
theorem St.set_self {σ : St} {i : Nat} {o : Option V} (h : σ[i]? = some o) : σ.set i o = σ := by
  obtain ⟨hi, e⟩ := List.getElem?_eq_some_iff.mp h
  rw [← e]; simp
theorem GrowF.th {fp : List Addr} {G H G' H' : Hp} (g : GrowF fp G H G' H') {x : Addr} (hx : x ∉ fp) (h1 : H x ≠ none) (h2 : G x = none) (nt : ∀ vs, H x ≠ some (.tup vs)) : G' x = none := (g.thin x hx h1 h2).none nt
theorem GrowF.sup {fp fp2 : List Addr} {G H G' H' : Hp} (g : GrowF fp G H G' H') (h : ∀ x ∈ fp, x ∈ fp2) : GrowF fp2 G H G' H' :=
  ⟨g.leG, fun a o ha e => g.keep a o (fun z => ha (h a z)) e, g.live, g.sub, fun a ha h1 h2 => g.thin a (fun z => ha (h a z)) h1 h2⟩
theorem GrowF.of {G H G' H' : Hp} (fp : List Addr) (g : Grow G H G' H') : GrowF fp G H G' H' :=
  ⟨g.leG, fun a o _ e => g.leH a o e, fun a h => g.live h, g.sub, fun a _ h1 h2 => g.thin a h1 h2⟩
theorem GrowF.comp {fp : List Addr} {G H G1 H1 G2 H2 : Hp} (g : Grow G H G1 H1) (f : GrowF fp G1 H1 G2 H2) : GrowF fp G H G2 H2 :=
  ⟨g.leG.trans f.leG, fun a o ha e => f.keep a o ha (g.leH a o e), fun a h => f.live a (g.live h), f.sub, fun a ha h1 h2 => by
    cases q : H a with
    | none => exact absurd q h1
    | some o =>
      have e := g.leH a o q
      rcases g.thin a h1 h2 with w | w
      · have t := f.thin a ha (some_ne e) w
        rw [e] at t
        exact t
      · rw [q] at w
        exact .inr w⟩
theorem SlotsOk.swap {Γ : Gm} {G H G' H' : Hp} {σ : St} {ρ : Sto} {φ : Nat → List Addr} (h : SlotsOk Γ G H σ ρ φ) {j : Nat} {u : V} {s : Slot} {fp' : List Addr} (hj : j < ρ.length) (hu : σ[j]? = some (some u)) (g : GrowF (φ j) G H G' H') (hf : ∀ y ∈ fp', y ∈ φ j ∨ H y = none) (ok : SlotOk Γ G' H' (some u) s fp') :
    SlotsOk Γ G' H' σ (ρ.set j s) (setφ φ j fp') := by
  have h1 := h.set hj (o := some u) (s := .dead) (fp := []) rfl fun i x _ hx => by simp at hx
  rw [St.set_self hu] at h1
  have h2 : SlotsOk Γ G' H' σ (ρ.set j .dead) (setφ φ j []) := h1.grow g.leG fun i x hx o ho => by
    rcases mem_setφ hx with ⟨_, z⟩ | ⟨hi, z⟩
    · simp at z
    · exact g.keep x o (fun w => hi (h.apart i j x z w)) ho
  have h3 := h2.set (i := j) (by simpa using hj) ok fun i x hi hx hm => by
    rcases mem_setφ hm with ⟨z, _⟩ | ⟨_, z⟩
    · exact hi z
    · rcases hf x hx with w | w
      · exact hi (h.apart i j x z w)
      · exact h.there i x z w
  rw [St.set_self hu, List.set_set] at h3
  have e : setφ (setφ φ j []) j fp' = setφ φ j fp' := by
    funext i
    by_cases z : i = j
    · subst z; rw [setφ_same, setφ_same]
    · rw [setφ_ne z, setφ_ne z, setφ_ne z]
  rw [e] at h3
  exact h3
theorem BIow.part {Γ : Gm} {G H : Hp} {v : V} {fp : List Addr} {c : Nat} {nm : List Str} {ρ : Sto} (h : BIow Γ G H v fp c nm ρ) {j : Nat} {δ : Type} {I : Ow δ} {w : δ} (hj : ρ[j]? = some (.own δ I w)) (hg : ∀ y ∈ fp, G y = none) :
    ∃ x dx vs u fj, v = .ref x ∧ H x = some (.ins (Γ.C c) dx (nm.zip vs)) ∧ vs.length = nm.length ∧ vs[j]? = some u ∧ I.own Γ G H u fj w ∧ (∀ y ∈ fj, y ∈ fp) ∧
      ∀ (s : Slot) (G' H' : Hp) (fj' : List Addr), GrowF fj G H G' H' → (∀ y ∈ fj', G' y = none ∧ (y ∈ fj ∨ H y = none)) → SlotOk Γ G' H' (some u) s fj' → ∃ fp', BIow Γ G' H' v fp' c nm (ρ.set j s) ∧ ∀ y ∈ fp', G' y = none ∧ (y ∈ fp ∨ H y = none) := by
  obtain ⟨x, dx, vs, φ, h1, h2, h3, h4, h5, h6, h7⟩ := id h
  obtain ⟨o, e1, u, e2, ow⟩ := h5.ok j _ hj
  have e1 : (vs.map some)[j]? = some (some u) := by rw [e1, e2]
  have eu : vs[j]? = some u := by
    rw [List.getElem?_map] at e1
    cases q : vs[j]? with
    | none => rw [q] at e1; cases e1
    | some u' => rw [q] at e1; cases e1; rfl
  have hjl : j < ρ.length := (List.getElem?_eq_some_iff.mp hj).1
  refine ⟨x, dx, vs, u, φ j, h1, h3, h4, eu, ow, fun y hy => by rw [h7]; exact List.mem_cons_of_mem _ (List.mem_cons_of_mem _ (h5.inP hy)), fun s G' H' fj' g hf ok => ?_⟩
  have sw := h5.swap hjl e1 g (fun y hy => (hf y hy).2) ok
  have nx : ∀ i, x ∉ setφ φ j fj' i ∧ dx ∉ setφ φ j fj' i := fun i => by
    constructor
    · intro z
      rcases mem_setφ z with ⟨_, z⟩ | ⟨_, z⟩
      · rcases (hf x z).2 with w | w
        · exact (h6 j).1 w
        · rw [h3] at w; cases w
      · exact (h6 i).1 z
    · intro z
      rcases mem_setφ z with ⟨_, z⟩ | ⟨_, z⟩
      · rcases (hf dx z).2 with w | w
        · exact (h6 j).2 w
        · rw [h2] at w; cases w
      · exact (h6 i).2 z
  refine ⟨x :: dx :: prt (setφ φ j fj') (ρ.set j s).length, ⟨x, dx, vs, _, h1, g.keep dx _ (h6 j).2 h2, g.keep x _ (h6 j).1 h3, h4, sw, nx, rfl⟩, fun y hy => ?_⟩
  have inp : ∀ y, y ∈ fp → y ∉ φ j → G' y = none ∧ (y ∈ fp ∨ H y = none) := fun y hy hn => ⟨g.th hn (h.there y hy).1 (hg y hy) (h.there y hy).2, .inl hy⟩
  rcases List.mem_cons.mp hy with z | hy
  · exact inp y (by rw [z, h7]; simp) (by rw [z]; exact (h6 j).1)
  · rcases List.mem_cons.mp hy with z | hy
    · exact inp y (by rw [z, h7]; simp) (by rw [z]; exact (h6 j).2)
    · obtain ⟨i, hi, hy⟩ := mem_prt.mp hy
      rcases mem_setφ hy with ⟨_, z⟩ | ⟨hij, z⟩
      · refine ⟨(hf y z).1, ?_⟩
        rcases (hf y z).2 with w | w
        · exact .inl (by rw [h7]; exact List.mem_cons_of_mem _ (List.mem_cons_of_mem _ (h5.inP w)))
        · exact .inr w
      · exact inp y (by rw [h7]; exact List.mem_cons_of_mem _ (List.mem_cons_of_mem _ (h5.inP z))) (fun w => hij (h5.apart i j y z w))
def Opn (Γ : Gm) (B : Bs) (G H : Hp) (σ : St) (v : V) {δ : Type} (I : Ow δ) (w : δ) (up : δ → Sto) : Prop := ∃ fp, I.own Γ G H v fp w ∧ (∀ x ∈ fp, G x = none) ∧
  ∀ w' G' H' fp', GrowF fp G H G' H' → (∀ y ∈ fp', G' y = none ∧ (y ∈ fp ∨ H y = none)) → I.own Γ G' H' v fp' w' → At Γ B (up w') G' H' σ
theorem At.opn {Γ : Gm} {B : Bs} {ρ : Sto} {G H : Hp} {σ : St} {δ : Type} {I : Ow δ} {w : δ} {i : Nat} (A : At Γ B ρ G H σ) (h : ρ[i]? = some (.own δ I w)) : ∃ v, σ[i]? = some (some v) ∧ Opn Γ B G H σ v I w fun w' => ρ.set i (.own δ I w') := by
  obtain ⟨v, fp, h1, h2, h3, h4⟩ := A.openF h
  exact ⟨v, h1, fp, h2, h3, fun w' G' H' fp' g hf o => h4 δ I w' G' H' fp' g hf o⟩
theorem Opn.grow {Γ : Gm} {B : Bs} {G H G' H' : Hp} {σ : St} {v : V} {δ : Type} {I : Ow δ} {w : δ} {up : δ → Sto} (o : Opn Γ B G H σ v I w up) (g : Grow G H G' H') : Opn Γ B G' H' σ v I w up := by
  obtain ⟨fp, h1, h2, h3⟩ := o
  refine ⟨fp, I.stay h1 g.leG fun x _ o e => g.leH x o e, fun x hx => (g.thin x (I.there h1 x hx) (h2 x hx)).none (I.nt h1 x hx), fun w' G2 H2 fp' gf hf ow' => h3 w' G2 H2 fp' (GrowF.comp g gf) (fun y hy => ⟨(hf y hy).1, (hf y hy).2.imp_right fun z => ?_⟩) ow'⟩
  cases q : H y with
  | none => rfl
  | some u => rw [g.leH y u q] at z; cases z
theorem Opn.at {Γ : Gm} {B : Bs} {G H : Hp} {σ : St} {v : V} {δ : Type} {I : Ow δ} {w : δ} {up : δ → Sto} (o : Opn Γ B G H σ v I w up) (s : Sub G H) : At Γ B (up w) G H σ := by
  obtain ⟨fp, h1, h2, h3⟩ := o
  exact h3 w G H fp (GrowF.of fp (.refl s)) (fun y hy => ⟨h2 y hy, .inl hy⟩) h1
theorem Opn.part {Γ : Gm} {B : Bs} {G H : Hp} {σ : St} {v : V} {c : Nat} {nm : List Str} {τ : Type} [Cnt τ] {t : τ} {up : BI c nm τ → Sto} (o : Opn Γ B G H σ v instOwBI (BI.mk t) up) {j : Nat} {δ : Type} {I : Ow δ} {w : δ} (hj : (Cnt.slots t)[j]? = some (.own δ I w)) (st : δ → τ) (hst : ∀ w', Cnt.slots (st w') = (Cnt.slots t).set j (.own δ I w')) :
    ∃ x dx vs u, v = .ref x ∧ H x = some (.ins (Γ.C c) dx (nm.zip vs)) ∧ vs.length = nm.length ∧ vs[j]? = some u ∧ Opn Γ B G H σ u I w fun w' => up (BI.mk (st w')) := by
  obtain ⟨fp, h1, h2, h3⟩ := o
  obtain ⟨x, dx, vs, u, fj, e1, e2, e3, e4, ow, hin, cl⟩ := BIow.part h1 hj h2
  refine ⟨x, dx, vs, u, e1, e2, e3, e4, fj, ow, fun y hy => h2 y (hin y hy), fun w' G' H' fj' g hf ow' => ?_⟩
  obtain ⟨fp', b1, b2⟩ := cl (.own δ I w') G' H' fj' g hf ⟨u, rfl, ow'⟩
  exact h3 (BI.mk (st w')) G' H' fp' (g.sup hin) b2 (by show BIow Γ G' H' v fp' c nm (Cnt.slots (st w')); rw [hst]; exact b1)
def cOw (Γ : Gm) (B : Bs) (ρ : Sto) {δ : Type} (I : Ow δ) (w : δ) (up : δ → Sto) : TE := fun σ H Q => ∃ G, At Γ B ρ G H σ ∧ ∀ v G' H', Grow G H G' H' → Opn Γ B G' H' σ v I w up → Q v H'
abbrev XOw (X : Cx) (Γ : Gm) (B : Bs) (ρ : Sto) (e : Expr) {δ : Type} [I : Ow δ] (w : δ) (up : δ → Sto) : Prop := PE X e (cOw Γ B ρ I w up)
def fldAt (f : Str) : List Str → Option Nat
  | [] => none
  | y :: r => if f == y then some 0 else (fldAt f r).map (· + 1)
structure ClT (Γ : Gm) (c : Nat) (nm : List Str) : Prop where
  cl : Cls Γ.K (Γ.C c)
  na : ∀ f ∈ nm, NoAttr Γ.K (Γ.C c) f
section
variable {X : Cx} {Γ : Gm} {B : Bs} {L β C : Type} [Rp β] {F : Kt L β C} {ρ ρ' : Sto} {N : List Str} {sc : Scope} {k : Nat} {fx : List Nat} {W : WX} {M : List Addr} {pos p p' p1 p2 : Pos} {e a b o : Expr} {st : Stmt} {es : List Expr} {x f : Str} {c : Nat} {nm : List Str} {τ : Type} [Cnt τ] {t : τ}
variable {α δ : Type} [Rp α]
end
end Sim
namespace Sim
open PySem L2
open Rp (rep)
open At1 (toV)
open Ow (own)
open RpA (repA stoA)
theorem SlotsOk.pad {Γ : Gm} {G H : Hp} {σ : St} {ρ : Sto} {φ : Nat → List Addr} (h : SlotsOk Γ G H σ ρ φ) (m : Nat) : SlotsOk Γ G H (σ ++ List.replicate m none) (ρ ++ deads m) φ := by
  refine ⟨by simp [h.len, deads], fun i s e => ?_, h.apart, fun i hi => h.out i (by simp at hi; omega)⟩
  by_cases hi : i < ρ.length
  · rw [List.getElem?_append_left hi] at e
    obtain ⟨o, h1, h2⟩ := h.ok i s e
    exact ⟨o, by rw [List.getElem?_append_left (by rw [h.len]; exact hi)]; exact h1, h2⟩
  · rw [List.getElem?_append_right (by omega)] at e
    obtain ⟨e1, e2⟩ := get_rep e
    subst e1
    refine ⟨none, ?_, h.out i (by omega)⟩
    rw [List.getElem?_append_right (by rw [h.len]; omega), h.len, List.getElem?_replicate, if_pos e2]
def Slot.isDead : Slot → Bool
  | .dead => true
  | _ => false
def deadBut (fx : List Nat) : Sto → Nat → Bool
  | [], _ => true
  | s :: r, i => (s.isDead || fx.contains i) && deadBut fx r (i + 1)
def specG (Γ : Gm) {τ β ζ : Type} [Rp β] (sin : τ → Sto) (sout : ζ → Sto) (f : τ → Option (Except Er β × ζ)) : Sp := fun vs H Q E => ∃ G t φ r z, Sub G H ∧ SlotsOk Γ G H (vs.map some) (sin t) φ ∧ (∀ i, ∀ a ∈ φ i, G a = none) ∧ f t = some (r, z) ∧ match r with
  | .ok b => ∀ v G' H' φ', GrowF (prt φ (sin t).length) G H G' H' → rep Γ G' v b → SlotsOk Γ G' H' (vs.map some) (sout z) φ' → (∀ i, ∀ y ∈ φ' i, G' y = none ∧ (y ∈ prt φ (sin t).length ∨ H y = none)) → Q v H'
  | .error e => ∀ cls d G' H' φ', GrowF (prt φ (sin t).length) G H G' H' → SlotsOk Γ G' H' (vs.map some) (sout z) φ' → (∀ i, ∀ y ∈ φ' i, G' y = none ∧ (y ∈ prt φ (sin t).length ∨ H y = none)) → IsEr Γ e cls d H' → E cls d H'
abbrev ktG {β ζ : Type} (sout : ζ → Sto) (m : Nat) (W : WX) : Kt Empty β ζ := ⟨fun l => l.elim, fun l => l.elim, fun z => sout z ++ deads m, false, W, none⟩
def retG {S β ζ : Type} (fin : S → β × ζ) : Fl S Empty β ζ → Option (Except Er β × ζ)
  | .nx s => some (.ok (fin s).1, (fin s).2)
  | .ret b z => some (.ok b, z)
  | .err e z => some (.error e, z)
  | _ => none
structure CalG (Γ : Gm) (x : Str) (k : Nat) {τ β ζ : Type} [Rp β] (sin : τ → Sto) (sout : ζ → Sto) (f : τ → Option (Except Er β × ζ)) : Prop where
  ex : ∃ a fd ps, FnOk Γ.P Γ.w Γ.K Γ.mg Γ.base (L2N.CX Γ.P Γ.w) k a fd ps (specG Γ sin sout f) ∧ Γ.mg x = some (.ref a) ∧ PySem.W.keepIn Γ.K (.ref a) = true ∧ Binds Γ.K fd ps []
structure CalGM (Γ : Gm) (c : Nat) (x : Str) (k : Nat) {τ β ζ : Type} [Rp β] (sin : τ → Sto) (sout : ζ → Sto) (f : τ → Option (Except Er β × ζ)) : Prop where
  ex : ∃ a fd ps, FnOk Γ.P Γ.w Γ.K Γ.mg Γ.base (L2N.CX Γ.P Γ.w) k a fd ps (specG Γ sin sout f) ∧ Meth Γ.K (Γ.C c) x a ∧ Binds Γ.K fd ps []
structure CalGK (Γ : Gm) (c : Nat) (x : Str) (k : Nat) {τ β ζ : Type} [Rp β] (sin : τ → Sto) (sout : ζ → Sto) (f : τ → Option (Except Er β × ζ)) : Prop where
  ex : ∃ a fd ps, FnOk Γ.P Γ.w Γ.K Γ.mg Γ.base (L2N.CX Γ.P Γ.w) k a fd ps (specG Γ sin sout f) ∧ Mk Γ.K (Γ.C c) a ∧ Γ.mg x = some (.ref (Γ.C c)) ∧ Binds Γ.K fd ps []
structure DefGM (Γ : Gm) (c : Nat) (x qual : Str) (st : Stmt) (ps : List Str) : Prop where
  ex : ∃ a fd, Fun Γ.K x qual st a fd ∧ Meth Γ.K (Γ.C c) x a ∧ Binds Γ.K fd ps []
structure DefGK (Γ : Gm) (c : Nat) (x qual : Str) (st : Stmt) (ps : List Str) : Prop where
  ex : ∃ a fd, Fun Γ.K "__init__" qual st a fd ∧ Mk Γ.K (Γ.C c) a ∧ Γ.mg x = some (.ref (Γ.C c)) ∧ Binds Γ.K fd ps []
section
variable {Γ : Gm} {x qual : Str} {st : Stmt} {N ps : List Str} {k : Nat} {τ β ζ S : Type} [Rp β] {sin : τ → Sto} {sout : ζ → Sto} {sto : S → Sto}
end
end Sim
namespace Sim
open PySem L2
open Rp (rep)
open At1 (toV)
open Ow (own)
open RpA (repA stoA)
def cGe (Γ : Gm) (B : Bs) (E : St → XK) (ρ : Sto) {α S : Type} [Rp α] (m : Option (Except Er α × S)) (sto : S → Sto) : TE := fun σ H Q => ∃ G r s, At Γ B ρ G H σ ∧ m = some (r, s) ∧ match r with
  | .ok b => ∀ v G' H', Le G G' → At Γ B (sto s) G' H' σ → rep Γ G' v b → Q v H'
  | .error e => ∀ cls d G' H', At Γ B (sto s) G' H' σ → IsEr Γ e cls d H' → E σ cls d H'
abbrev XGe (X : Cx) (Γ : Gm) (B : Bs) (E : St → XK) (ρ : Sto) (e : Expr) {α S : Type} [Rp α] (m : Option (Except Er α × S)) (sto : S → Sto) : Prop := PE X e (cGe Γ B E ρ m sto)
abbrev EW (W : WX) : St → XK := fun σ cls d H => W cls d σ H
abbrev EF : St → XK := fun _ _ _ _ => False
def exG {α S C : Type} (cc : S → C) : Except Er α × S → Except (Er × C) (α × S)
  | (.ok b, s) => .ok (b, s)
  | (.error e, s) => .error (e, cc s)
def okG {α S : Type} : Except Er α × S → Option (α × S)
  | (.ok b, s) => some (b, s)
  | (.error _, _) => none
section
variable {X : Cx} {Γ : Gm} {B : Bs} {L β C : Type} [Rp β] {F : Kt L β C} {ρ ρ' : Sto} {N : List Str} {sc : Scope} {k j : Nat} {fx : List Nat} {W : WX} {M : List Addr} {e : Expr} {α S : Type} [Rp α] {sto : S → Sto}
end
theorem SlotsOk.one {Γ : Gm} {G H : Hp} {v : V} {vs : List V} {s : Slot} {fp : List Addr} {τ : Type} [RpA τ] {t : τ} (ok : SlotOk Γ G H (some v) s fp) (r : repA Γ G vs t) : SlotsOk Γ G H ((v :: vs).map some) (s :: stoA t) fun i => if i = 0 then fp else [] := by
  have q := RpA.okA (H := H) r
  have hl : (stoA t).length = RpA.num τ := RpA.lenA t
  refine ⟨by simp [q.1, hl], fun i sl e => ?_, fun i j y h h' => ?_, fun i hi => ?_⟩
  · cases i with
    | zero =>
      have e : s = sl := Option.some.inj e
      subst e
      exact ⟨some v, rfl, ok⟩
    | succ i =>
      rw [List.getElem?_cons_succ] at e
      obtain ⟨u, q1, q2⟩ := q.2 i sl e
      refine ⟨some u, by simp [q1], ?_⟩
      rw [if_neg (by omega)]
      exact q2
  · by_cases e1 : i = 0 <;> by_cases e2 : j = 0
    · rw [e1, e2]
    · rw [if_neg e2] at h'; simp at h'
    · rw [if_neg e1] at h; simp at h
    · rw [if_neg e1] at h; simp at h
  · rw [if_neg]
    intro e
    rw [e] at hi
    simp at hi
section
variable {X : Cx} {Γ : Gm} {B : Bs} {L β C : Type} [Rp β] {F : Kt L β C} {ρ ρ' : Sto} {N : List Str} {sc : Scope} {k j : Nat} {fx : List Nat} {W : WX} {M : List Addr} {pos p p' p1 p2 apos : Pos} {e a b o : Expr} {st : Stmt} {es : List Expr} {x f : Str} {c : Nat} {nm : List Str} {τb : Type} [Cnt τb] {tb : τb}
variable {α δ τ τ' ζ : Type} [Rp α] [RpA τ] {sin : τ' → Sto} {sout : ζ → Sto} {g : τ' → Option (Except Er α × ζ)} {E : L2.St → XK}
end
def cGOe (Γ : Gm) (B : Bs) (E : L2.St → XK) (ρ : Sto) {δ : Type} [I : Ow δ] (m : Option (Except Er δ)) : TE := fun σ H Q => ∃ G r, At Γ B ρ G H σ ∧ m = some r ∧ match r with
  | .ok z => ∀ v fp G' H', Grow G H G' H' → own Γ G' H' v fp z → (∀ x ∈ fp, H x = none ∧ G' x = none) → Q v H'
  | .error e => ∀ cls d G' H', Grow G H G' H' → IsEr Γ e cls d H' → E σ cls d H'
abbrev XGOe (X : Cx) (Γ : Gm) (B : Bs) (E : L2.St → XK) (ρ : Sto) (e : Expr) {δ : Type} [I : Ow δ] (m : Option (Except Er δ)) : Prop := PE X e (cGOe Γ B E ρ m)
def mapK {δ ζ : Type} (gz : ζ → δ) : Except Er Unit × ζ → Except Er δ
  | (.ok _, z) => .ok (gz z)
  | (.error e, _) => .error e
section
variable {X : Cx} {Γ : Gm} {B : Bs} {ρ ρ' : Sto} {N : List Str} {sc : Scope} {k j : Nat} {pos p p' p1 p2 apos : Pos} {e a b o : Expr} {es : List Expr} {x : Str} {c : Nat}
variable {δ τ τ' ζ : Type} [RpA τ] [I : Ow δ] {sin : τ' → Sto} {sout : ζ → Sto} {g : τ' → Option (Except Er Unit × ζ)} {E : L2.St → XK}
instance : Cnt Unit := ⟨fun _ => []⟩
end
end Sim
namespace Sim
open PySem L2
open Rp (rep)
open At1 (toV)
open Ow (own)
open RpA (repA stoA)
inductive AK : Type 1
  | own (i : Nat) : AK
  | val (α : Type) (I : Rp α) (a : α) : AK
abbrev av {α : Type} [I : Rp α] (a : α) : AK := .val α I a
def AKok (Γ : Gm) (G : Hp) (σ : L2.St) (v : V) : AK → Prop
  | .own i => σ[i]? = some (some v)
  | .val _ I a => I.rep Γ G v a
def AKs (Γ : Gm) (G : Hp) (σ : L2.St) (vs : List V) (ks : List AK) : Prop := vs.length = ks.length ∧ ∀ (p : Nat) v k, vs[p]? = some v → ks[p]? = some k → AKok Γ G σ v k
def ownIx : List AK → List Nat
  | [] => []
  | .own i :: r => i :: ownIx r
  | .val _ _ _ :: r => ownIx r
def rs1 (ρ : Sto) : AK → Slot
  | .own i => (ρ[i]?).getD .dead
  | .val α I a => .val α I a
def rsv (ρ : Sto) (ks : List AK) : Sto := ks.map (rs1 ρ)
def kill : List AK → Sto → Sto
  | [], ρ => ρ
  | .own i :: r, ρ => kill r (ρ.set i .dead)
  | .val _ _ _ :: r, ρ => kill r ρ
def pbk : List AK → Sto → Sto → Sto
  | .own i :: r, s :: t, ρ => pbk r t (ρ.set i s)
  | .val _ _ _ :: r, _ :: t, ρ => pbk r t ρ
  | _, _, ρ => ρ
def Slot.isOwn : Slot → Bool
  | .own _ _ _ => true
  | _ => false
def allOwn (ρ : Sto) (is : List Nat) : Bool := is.all fun i => match ρ[i]? with
  | some s => s.isOwn
  | none => false
section
variable {Γ : Gm} {B : Bs} {ρ : Sto} {G H : Hp} {σ : L2.St}
end
def cAM (Γ : Gm) (B : Bs) (ρ : Sto) {τ S : Type} (m : Option (τ × S)) (g : τ → List AK) (sto : S → Sto) : TA := fun σ H Q => ∃ G t s, At Γ B ρ G H σ ∧ m = some (t, s) ∧ ∀ vs G' H', Le G G' → At Γ B (sto s) G' H' σ → AKs Γ G' σ vs (g t) → Q vs H'
abbrev XAM (X : Cx) (Γ : Gm) (B : Bs) (ρ : Sto) (es : List Expr) {τ S : Type} (m : Option (τ × S)) (g : τ → List AK) (sto : S → Sto) : Prop := PA X es (cAM Γ B ρ m g sto)
theorem AKs.cons {Γ : Gm} {G : Hp} {σ : L2.St} {v : V} {vs : List V} {k : AK} {ks : List AK} (h : AKok Γ G σ v k) (t : AKs Γ G σ vs ks) : AKs Γ G σ (v :: vs) (k :: ks) :=
  ⟨by simp [t.1], fun p u q e1 e2 => by
    cases p with
    | zero => cases e1; cases e2; exact h
    | succ p => exact t.2 p u q (by simpa using e1) (by simpa using e2)⟩
section
variable {X : Cx} {Γ : Gm} {B : Bs} {ρ ρ' : Sto} {N : List Str} {sc : Scope} {k j : Nat} {pos p p' p1 p2 apos : Pos} {e a b o : Expr} {es : List Expr} {x y : Str} {S S1 S2 : Type} {sto : S → Sto} {sto1 : S1 → Sto} {sto2 : S2 → Sto}
variable {α β τ τ' ζ : Type} [Rp α] [Rp β] {g : τ → List AK}
variable {sin : τ' → Sto} {sout : ζ → Sto} {f : τ' → Option (Except Er β × ζ)} {E : L2.St → XK}
end
end Sim
namespace Sim
open PySem L2
open Rp (rep)
open At1 (toV)
open Ow (own)
open RpA (repA stoA)
theorem ClT.sub {Γ : Gm} {c : Nat} {nm nm' : List Str} (T : ClT Γ c nm') (h : ∀ f ∈ nm, f ∈ nm') : ClT Γ c nm := ⟨T.cl, fun f hf => T.na f (h f hf)⟩
theorem SlotsOk.snoc {Γ : Gm} {G H : Hp} {σ : St} {ρ : Sto} {φ : Nat → List Addr} {o : Option V} {s : Slot} {fp : List Addr} (h : SlotsOk Γ G H σ ρ φ) (ok : SlotOk Γ G H o s fp) (ap : ∀ j x, x ∈ fp → x ∈ φ j → False) : SlotsOk Γ G H (σ ++ [o]) (ρ ++ [s]) (setφ φ ρ.length fp) := by
  have h1 := (h.pad 1).set (i := ρ.length) (by simp [deads]) ok fun j x _ hx hm => ap j x hx hm
  have e1 : (σ ++ List.replicate 1 none).set ρ.length o = σ ++ [o] := by
    rw [← h.len]
    simp
  have e2 : (ρ ++ deads 1).set ρ.length s = ρ ++ [s] := by simp [deads]
  rw [e1, e2] at h1
  exact h1
section
variable {Γ : Gm} {B : Bs} {ρ : Sto} {G H G1 H1 : Hp} {σ : L2.St} {c : Nat} {nm nm' : List Str} {τb τb' : Type} [Cnt τb] [Cnt τb'] {tb : τb} {tb' : τb'} {f : Str} {i : Nat} {y : V} {s : Slot} {fps : List Addr}
abbrev SetF (f : Str) (nm nm' : List Str) (sl sl' : Sto) (s : Slot) : Prop := (fldAt f nm = none ∧ nm' = nm ++ [f] ∧ sl' = sl ++ [s]) ∨ (∃ j, fldAt f nm = some j ∧ nm' = nm ∧ sl' = sl.set j s)
end
section
variable {X : Cx} {Γ : Gm} {B : Bs} {L β C : Type} [Rp β] {F : Kt L β C} {ρ ρ' : Sto} {N : List Str} {sc : Scope} {k j : Nat} {fx : List Nat} {W : WX} {M : List Addr} {pos p p' p1 p2 apos : Pos} {e a b o : Expr} {es : List Expr} {x f : Str} {c : Nat} {nm nm' nmT : List Str} {τb τb' : Type} [Cnt τb] [Cnt τb'] {tb : τb}
variable {α δ S : Type} [Rp α] {sto : S → Sto}
end
end Sim
namespace L2
open PySem PySem.Spec PyProof.Rows
structure FnHX (P : Program) (w : World) (K : PySem.W.Frag) (mg : Str → Option Value) (base : Heap) (CX : CXT) (k : Nat) (f : Addr) (fd : FuncData) (ps : List Str) (sp : Addr × Obj → Sp) : Prop where
  len : ∀ q vs H Q E, sp q vs H Q E → vs.length = ps.length
  run : ∀ (A : Around) (outer : List Env) (s : Shared) (H : Hp) (args : Args) (us : List Value) (vs : List V) (Q : VK) (E : XK) (q : Addr × Obj), L2H.RoomH k A → L2H.PinOk outer H s q →
    Env0 P w K mg base A outer s H → BindsTo s fd args (ps.zip us) → Vals vs us → sp q vs H Q E → codeAny (model P w) A (.call (.ref f) args) (CR CX outer P w H s Q E) s
section
variable {P : Program} {w : World} {K : PySem.W.Frag} {mg : Str → Option Value} {base : Heap} {CX : CXT} {k : Nat} {x qual : Str} {st : Stmt} {f : Addr} {fd : FuncData} {N ps : List Str} {sp : Addr × Obj → Sp}
end
section
variable {Y : Cx} {CX : CXT} {k : Nat} {f : Addr} {fd : FuncData} {ps : List Str} {sp : Addr × Obj → Sp} {E : L2.St → XK} {y : Str} {pq pos : Pos} {a : Expr} {t : TA}
end
end L2
namespace Sim
open PySem L2
open Rp (rep)
open At1 (toV)
open Ow (own)
open RpA (repA stoA)
structure Hop (X : Cx) (Γ : Gm) (N : List Str) (sc : Scope) (k : Nat) (a : Addr) (e : Er) : Prop where
  hP : X.prog = Γ.P
  hw : X.w = Γ.w
  hK : X.K = Γ.K
  hmg : X.mg = Γ.mg
  hbase : X.base = Γ.base
  hN : X.N = N
  nd : N.Nodup
  hsc : X.env.scope = sc
  room : L2H.RoomH k X.A
  ex : ∃ oe d, (a, oe) ∈ X.pn ∧ Zc (.ref (Γ.C e.cls)) d oe ∧ (e.cls ≠ 9 → d = none) ∧ ∃ vs, oe.data = .fields vs
theorem Hop.gl {X : Cx} {Γ : Gm} {N : List Str} {sc : Scope} {k : Nat} {a : Addr} {e : Er} (c : Hop X Γ N sc k a e) {x : Str} (h : Glb sc x) : Gl X x := by
  show X.env.scope.names.lookup x = _
  rw [c.hsc]
  exact h
section
variable {X : Cx} {Γ : Gm} {B : Bs} {L β C : Type} [Rp β] {F : Kt L β C} {ρ ρ' : Sto} {N : List Str} {sc : Scope} {k j : Nat} {fx : List Nat} {W : WX} {M : List Addr} {pos pos' p p' p2 : Pos} {e a b o : Expr} {es : List Expr} {ad : Addr} {er : Er} {x : Str}
variable {α : Type} [Rp α]
def specH (Γ : Gm) (cs : List Nat) {β : Type} [Rp β] (f : Er → Option β) : Addr × Obj → Sp := fun q vs H Q _ => ∃ G er b, Sub G H ∧ vs = [.ref q.1] ∧ er.cls ∈ cs ∧ Zc (.ref (Γ.C er.cls)) none q.2 ∧ (∃ ws, q.2.data = .fields ws) ∧ f er = some b ∧ ∀ v G' H', Grow G H G' H' → rep Γ G' v b → Q v H'
structure CalH (Γ : Gm) (x : Str) (k : Nat) (cs : List Nat) {β : Type} [Rp β] (f : Er → Option β) : Prop where
  ex : ∃ a fd ps, FnHX Γ.P Γ.w Γ.K Γ.mg Γ.base CX0 k a fd ps (specH Γ cs f) ∧ Γ.mg x = some (.ref a) ∧ PySem.W.keepIn Γ.K (.ref a) = true ∧ Binds Γ.K fd ps []
end
end Sim
namespace Sim
open PySem L2
open Rp (rep)
open At1 (toV)
open Ow (own)
open RpA (repA stoA)
section
variable {X : Cx} {Γ : Gm} {B : Bs} {L β C : Type} [Rp β] {F : Kt L β C} {ρ ρ' : Sto} {N : List Str} {sc : Scope} {k : Nat} {fx : List Nat} {W : WX} {M : List Addr} {pos pos' p p' p2 : Pos} {e a b o tg it elt kx : Expr} {st : Stmt} {sts suite : List Stmt} {b₀ : Stmt} {es : List Expr} {S Sx : Type} {sto : S → Sto}
variable {α γ : Type} [Rp α] [Rp γ]
end
end Sim
namespace Sim
open PySem L2
open Rp (rep)
open At1 (toV)
open Ow (own)
open RpA (repA stoA)
def okL {τ β ζ : Type} (f : τ → Option (β × ζ)) : τ → Option (Except Er β × ζ) := fun t => (f t).bind fun r => some (.ok r.1, r.2)
section
variable {X : Cx} {Γ : Gm} {B : Bs} {L β C : Type} [Rp β] {F : Kt L β C} {ρ ρ' : Sto} {N : List Str} {sc : Scope} {k j : Nat} {fx : List Nat} {W : WX} {M : List Addr} {pos p p' p1 p2 apos : Pos} {e a b o : Expr} {es : List Expr} {x y : Str} {S S1 S2 : Type} {sto : S → Sto} {sto1 : S1 → Sto} {sto2 : S2 → Sto}
variable {α τ τ' ζ δ : Type} [Rp α] {g : τ → List AK} {sin : τ' → Sto} {sout : ζ → Sto} {f : τ' → Option (α × ζ)}
def exMap {α β S C : Type} (f : α × Unit → Option β) : Except (Er × C) (α × S) → Option (Except (Er × C) (β × S))
  | .ok q => (f (q.1, ())).bind fun z => some (.ok (z, q.2))
  | .error q => some (.error q)
end
structure OLa (p : Addr) (α : Type) where
  l : List α
instance instOwOLa {p : Addr} {α : Type} [Rp α] : Ow (OLa p α) where
  own := fun Γ G H v fp xs => ∃ vs, v = .ref p ∧ fp = [p] ∧ H p = some (.lst vs) ∧ RpL Γ G vs xs.l
  stay := fun ⟨vs, h1, h2, h3, h4⟩ e k => ⟨vs, h1, h2, k p (by rw [h2]; exact List.mem_cons_self) _ h3, h4.mono e⟩
  there := fun ⟨vs, h1, h2, h3, h4⟩ x hx => by
    rw [h2] at hx
    rw [List.mem_singleton.mp hx]
    exact some_ne h3
  nt := fun ⟨vs, h1, h2, h3, h4⟩ x hx ws e => by
    rw [h2] at hx
    rw [List.mem_singleton.mp hx, h3] at e
    cases e
  F := Unit
  iF := inferInstance
  toF := fun _ => ()
  canF := false
  fz := fun h => by cases h
theorem SlotsOk.other {Γ : Gm} {G H : Hp} {σ : St} {ρ : Sto} {φ : Nat → List Addr} (h : SlotsOk Γ G H σ ρ φ) {j : Nat} {s : Slot} (hj : j < ρ.length) (ok : ∀ o, σ[j]? = some o → SlotOk Γ G H o s (φ j)) : SlotsOk Γ G H σ (ρ.set j s) φ := by
  refine ⟨by simp [h.len], fun i u e => ?_, h.apart, fun i hi => h.out i (by simpa using hi)⟩
  by_cases z : i = j
  · subst z
    rw [List.getElem?_set_self hj] at e
    cases e
    have hs : i < σ.length := by rw [h.len]; exact hj
    exact ⟨σ[i], List.getElem?_eq_getElem hs, ok _ (List.getElem?_eq_getElem hs)⟩
  · rw [List.getElem?_set_ne (Ne.symm z)] at e
    exact h.ok i u e
section
variable {X : Cx} {Γ : Gm} {B : Bs} {L β C : Type} [Rp β] {F : Kt L β C} {ρ ρ' : Sto} {N : List Str} {sc : Scope} {k : Nat} {fx : List Nat} {W : WX} {M : List Addr} {pos p1 p2 : Pos} {tg : Expr} {body : List Stmt} {x f : Str} {c : Nat} {nm : List Str} {τ : Type} [Cnt τ] {τp : Addr → Type} [∀ p, Cnt (τp p)]
variable {α S : Type} [Rp α] {sto : S → Sto} {G H : Hp} {σ : L2.St} {i j : Nat}
end
end Sim
namespace L2
open PySem PySem.Spec PyProof.Rows
def ItZS (K : PySem.W.Frag) (a : Addr) (x : Str) : It :=
  ⟨fun i H => ∃ (ys : List V) (v : V) (c : Nat), SqL K H a ys ∧ ys[i]? = some v ∧ x.cps[i]? = some c,
   fun i H v H' => ∃ T u c, v = .ref T ∧ H T = none ∧ H' = upd H T (.tup [u, .str ⟨#[c]⟩]) ∧ (∀ ys, SqL K H a ys → ys[i]? = some u) ∧ x.cps[i]? = some c,
   fun i H => ∃ ys : List V, SqL K H a ys ∧ i = min ys.length x.cps.size⟩
def iZipS (K : PySem.W.Frag) (ta : TA) : TI := fun σ H R => ta σ H fun vs H1 => ∃ (a : Addr) (ys : List V) (x : Str), vs = [.ref a, .str x] ∧ SqL K H1 a ys ∧ R (ItZS K a x) H1
end L2
namespace Sim
open PySem L2
open Rp (rep)
open At1 (toV)
section
variable {X : Cx} {Γ : Gm} {B : Bs} {ρ : Sto} {e c : Expr} {N : List Str} {sc : Scope} {k : Nat} {p pos : Pos} {α : Type} [Rp α]
end
end Sim
namespace Sim
open PySem L2
open Rp (rep)
open At1 (toV)
open Ow (own)
open Dat (toD)
open RpA (repA stoA)
inductive OV where
  | u
  | n (i : Int)
  | w (t : Tt)
  deriving DecidableEq
def OV.v : OV → V
  | .u => .non
  | .n i => .int i
  | .w t => .str t.s
instance : At1 OV := ⟨OV.v, fun x => by cases x <;> rfl⟩
instance : AtE OV := ⟨fun a b => by
  cases a with
  | u => cases b <;> simp [toV, OV.v, eqV]
  | n i =>
    cases b with
    | n j =>
      show (i == j) = _
      rw [Bool.beq_eq_decide_eq]
      exact decide_eq_decide.mpr ⟨fun h => by rw [h], fun h => OV.n.inj h⟩
    | _ => simp [toV, OV.v, eqV]
  | w t =>
    cases b with
    | w r =>
      show (t.s == r.s) = _
      rw [Bool.beq_eq_decide_eq]
      exact decide_eq_decide.mpr ⟨fun h => by rw [Tt.ext' h], fun h => by rw [OV.w.inj h]⟩
    | _ => simp [toV, OV.v, eqV]⟩
def OV.int? : OV → Option Int
  | .n i => some i
  | _ => none
def OV.txt? : OV → Option Tt
  | .w t => some t
  | _ => none
def OV.ofO : Option Int → OV
  | none => .u
  | some i => .n i
instance : Cst OV Int := ⟨OV.int?, fun {_ _ _ a _} h r => by cases a <;> first | (cases h; exact r) | cases h⟩
instance : Cst OV Tt := ⟨OV.txt?, fun {_ _ _ a _} h r => by cases a <;> first | (cases h; exact r) | cases h⟩
instance : Cst Int OV := ⟨fun i => some (.n i), fun h r => by cases h; exact r⟩
instance : Cst Tt OV := ⟨fun t => some (.w t), fun h r => by cases h; exact r⟩
instance : Cst Unit OV := ⟨fun _ => some .u, fun h r => by cases h; exact r⟩
instance : Cst (Option Int) OV := ⟨fun o => some (OV.ofO o), fun {_ _ _ a _} h r => by
  cases h
  cases a with
  | none => exact r
  | some i => exact r.2⟩
structure TblS (Γ : Gm) (x : Str) (kvs : List (Str × Tt)) : Prop where
  ex : ∃ a es n, Γ.mg x = some (.ref a) ∧ KDict Γ.K Γ.w a es n ∧ (∀ q ∈ kvs, ∃ u, PySem.W.nsIn Γ.K a q.1 = some (some u) ∧ RelV (.str q.2.s) u) ∧ ∀ z, z ∉ kvs.map (·.1) → PySem.W.nsIn Γ.K a z = some none
def tgetS (kvs : List (Str × Tt)) (z : Tt) : Option Tt := (kvs.find? fun q => q.1 == z.s).map (·.2)
section
variable {X : Cx} {Γ : Gm} {B : Bs} {L β C : Type} [Rp β] {F : Kt L β C} {ρ ρ' : Sto} {N : List Str} {sc : Scope} {k j : Nat} {fx : List Nat} {W : WX} {M : List Addr} {pos apos p p' p1 p2 p3 : Pos} {e a b o : Expr} {es : List Expr} {x : Str} {S S1 S2 : Type} {sto : S → Sto} {sto1 : S1 → Sto} {sto2 : S2 → Sto}
variable {α γ : Type} [Rp α] [Rp γ]
def pint (x : Tt) : Option Int := if x.s.length ≤ 640 then PySem.intText? x.s else none
end
end Sim
namespace Sim
open PySem L2
open Rp (rep)
open At1 (toV)
open Ow (own)
open Dat (toD)
open RpA (repA stoA)
def cIF (Γ : Gm) (B : Bs) (ρ : Sto) {α S : Type} [Rp α] (m : Option (List α × S)) (sto : S → Sto) : TI := fun σ H R => ∃ G xs s, At Γ B ρ G H σ ∧ m = some (xs, s) ∧ ∀ J G' H', Le G G' → At Γ B (sto s) G' H' σ → WalkR Γ G' J xs → R J H'
abbrev XIF (X : Cx) (Γ : Gm) (B : Bs) (ρ : Sto) (tg e : Expr) {α S : Type} [Rp α] (m : Option (List α × S)) (sto : S → Sto) : Prop := PI X tg e (cIF Γ B ρ m sto)
section
variable {X : Cx} {Γ : Gm} {B : Bs} {L β C : Type} [Rp β] {F : Kt L β C} {ρ ρ' : Sto} {N : List Str} {sc : Scope} {k j : Nat} {fx : List Nat} {W : WX} {M : List Addr} {pos apos cpos p p' p1 p2 p3 : Pos} {e a b o tg it : Expr} {es : List Expr} {body : List Stmt} {x : Str} {S S1 S2 : Type} {sto : S → Sto} {sto1 : S1 → Sto} {sto2 : S2 → Sto}
variable {α γ : Type} [Rp α] [Rp γ]
end
end Sim
namespace Sim
open PySem L2
open Rp (rep)
open At1 (toV)
open Ow (own)
open RpA (repA stoA)
structure RD where
  web : WebD
  done : List (List (Tt × Tt))
abbrev nmR : List Str := ["web", "_done"]
instance : Cnt RD := ⟨fun r => [vl r.web, ow (OL.mk r.done)]⟩
structure PR1 where
  web : WebD
instance : Cnt PR1 := ⟨fun r => [vl r.web]⟩
structure SD where
  first : WebD
  rounds : RD
  deeds : List (Tt × List OV)
  lines : List Tt
abbrev nmS : List Str := ["_first", "_rounds", "_deeds", "_lines"]
abbrev ORd : Type := BI 21 nmR RD
abbrev OSn : Type := BI 22 nmS SD
instance : Cnt SD := ⟨fun s => [vl s.first, ow (BI.mk s.rounds : ORd), ow (OL.mk s.deeds), ow (OL.mk s.lines)]⟩
structure SDp (p : Addr) where
  first : WebD
  rounds : RD
  deeds : List (Tt × List OV)
  lines : List Tt
instance {p : Addr} : Cnt (SDp p) := ⟨fun s => [vl s.first, ow (BI.mk s.rounds : ORd), ow (OLa.mk (p := p) s.deeds), ow (OL.mk s.lines)]⟩
structure PS1 where
  first : WebD
instance : Cnt PS1 := ⟨fun s => [vl s.first]⟩
structure PS2 where
  first : WebD
  rounds : RD
instance : Cnt PS2 := ⟨fun s => [vl s.first, ow (BI.mk s.rounds : ORd)]⟩
structure PS3 where
  first : WebD
  rounds : RD
  deeds : List (Tt × List OV)
instance : Cnt PS3 := ⟨fun s => [vl s.first, ow (BI.mk s.rounds : ORd), ow (OL.mk s.deeds)]⟩
def specRN (Γ : Gm) {τ α : Type} [Rp α] (sin : τ → Sto) (f : τ → Option (List α)) : Sp := fun vs H Q _ => ∃ G t φ b, Sub G H ∧ SlotsOk Γ G H (vs.map some) (sin t) φ ∧ (∀ i, ∀ a ∈ φ i, G a = none) ∧ f t = some b ∧ ∀ p us G' H', Grow G H G' H' → H' p = none → RpL Γ G' us b → Q (.ref p) (upd H' p (.lst us))
def specRE (Γ : Gm) {τ α : Type} [Rp α] (sin : τ → Sto) (f : τ → Option α) : Sp := fun vs H Q _ => ∃ G t φ b, Sub G H ∧ SlotsOk Γ G H (vs.map some) (sin t) φ ∧ (∀ i, ∀ a ∈ φ i, G a = none) ∧ f t = some b ∧ ∀ v G' H', Grow G H G' H' → rep Γ G' v b → Q v H'
structure CalRN (Γ : Gm) (c : Nat) (x : Str) (k : Nat) {τ α : Type} [Rp α] (sin : τ → Sto) (f : τ → Option (List α)) : Prop where
  ex : ∃ a fd ps, FnOk Γ.P Γ.w Γ.K Γ.mg Γ.base CX0 k a fd ps (specRN Γ sin f) ∧ Meth Γ.K (Γ.C c) x a ∧ Binds Γ.K fd ps []
structure CalRE (Γ : Gm) (c : Nat) (x : Str) (k : Nat) {τ α : Type} [Rp α] (sin : τ → Sto) (f : τ → Option α) : Prop where
  ex : ∃ a fd ps, FnOk Γ.P Γ.w Γ.K Γ.mg Γ.base CX0 k a fd ps (specRE Γ sin f) ∧ Meth Γ.K (Γ.C c) x a ∧ Binds Γ.K fd ps []
section
variable {Γ : Gm} {x qual : Str} {st : Stmt} {N ps : List Str} {k c : Nat} {τ α : Type} [Rp α] {sin : τ → Sto} {e : Expr} {pos : Pos}
end
section
variable {X : Cx} {Γ : Gm} {B : Bs} {L β C : Type} [Rp β] {F : Kt L β C} {ρ ρ' : Sto} {N : List Str} {sc : Scope} {k j : Nat} {fx : List Nat} {W : WX} {M : List Addr} {pos apos p p' p1 p2 p3 : Pos} {e a b o : Expr} {es : List Expr} {x : Str} {S : Type} {sto : S → Sto}
variable {α γ τ' : Type} [Rp α] [Rp γ] {cn : Nat} {nm : List Str} {τb : Type} [Cnt τb] {tb : τb} {sin : τ' → Sto}
def exIf {α S C : Type} (ma mb : S → Option α) : Except (Er × C) (Bool × S) → Option (Except (Er × C) (α × S))
  | .ok q => (if q.1 = true then ma q.2 else mb q.2).bind fun z => some (.ok (z, q.2))
  | .error q => some (.error q)
def exOk {α γ S C : Type} (f : α → γ) : Except (Er × C) (α × S) → Except (Er × C) (γ × S)
  | .ok q => .ok (f q.1, q.2)
  | .error q => .error q
end
end Sim
namespace Sim
open PySem PySem.Spec PyProof.Rows L2
open Rp (rep)
open At1 (toV)
open Ow (own)
open RpA (repA stoA)
section
variable {Γ : Gm} {x qual : Str} {st : Stmt} {ps : List Str}
end
def retJ {S β ζ : Type} (fin : S → β × ζ) : Fl S Empty β ζ → Option (β × ζ)
  | .nx s => some (fin s)
  | .ret b z => some (b, z)
  | _ => none
section
variable {Γ : Gm} {x qual : Str} {st : Stmt} {N ps : List Str} {k : Nat} {τ β ζ S : Type} [Rp β] {sin : τ → Sto} {sout : ζ → Sto} {sto : S → Sto}
theorem FnOk.imp {P : Program} {w : World} {K : PySem.W.Frag} {mg : Str → Option Value} {base : Heap} {CX : CXT} {k : Nat} {a : Addr} {fd : FuncData} {ps : List Str} {sp sp' : Sp} (F : FnOk P w K mg base CX k a fd ps sp) (h : ∀ vs H Q E, sp' vs H Q E → sp vs H Q E) : FnOk P w K mg base CX k a fd ps sp' :=
  ⟨fun vs H Q E q => F.len vs H Q E (h vs H Q E q), fun A outer s H args us vs Q E hr e0 hb r q => F.run A outer s H args us vs Q E hr e0 hb r (h vs H Q E q)⟩
end
end Sim
namespace Sim
open PySem L2
open Rp (rep)
open At1 (toV)
open Ow (own)
open Dat (toD)
open RpA (repA stoA)
def exRetS {α S T L C : Type} (c : S → C) : Except (Er × C) (α × S) → Fl T L α C
  | .ok q => .ret q.1 (c q.2)
  | .error q => .err q.1 q.2
section
variable {X : Cx} {Γ : Gm} {B : Bs} {L β C : Type} [Rp β] {F : Kt L β C} {ρ ρ' : Sto} {N : List Str} {sc : Scope} {k j : Nat} {fx : List Nat} {W : WX} {M : List Addr} {pos apos cpos p p' p1 p2 p3 : Pos} {e a b o tg it : Expr} {es : List Expr} {body : List Stmt} {x : Str} {S S1 S2 : Type} {sto : S → Sto} {sto1 : S1 → Sto} {sto2 : S2 → Sto}
variable {α γ τ : Type} [Rp α] [Rp γ] [RpA τ]
end
def specZN (Γ : Gm) {τ α : Type} [RpA τ] [Rp α] (f : τ → OZ → Option (List α × OZ)) : Sp := fun vs H Q _ => ∃ G t z b z' ws p fp, Sub G H ∧ vs = .ref p :: ws ∧ repA Γ G ws t ∧ (∀ x ∈ fp, G x = none) ∧ instOwOZ.own Γ G H (.ref p) fp z ∧ f t z = some (b, z') ∧
  ∀ d us G' H' fp', GrowF fp G H G' H' → H' d = none → RpL Γ G' us b → (∀ y ∈ fp', G' y = none ∧ (y ∈ fp ∨ H y = none)) → instOwOZ.own Γ G' H' (.ref p) fp' z' → Q (.ref d) (upd H' d (.lst us))
structure CalZN (Γ : Gm) (x : Str) (k : Nat) {τ α : Type} [RpA τ] [Rp α] (f : τ → OZ → Option (List α × OZ)) : Prop where
  ex : ∃ a fd ps, FnOk Γ.P Γ.w Γ.K Γ.mg Γ.base CX0 k a fd ps (specZN Γ f) ∧ Γ.mg x = some (.ref a) ∧ PySem.W.keepIn Γ.K (.ref a) = true ∧ Binds Γ.K fd ps []
abbrev ktZN (α : Type) (n : Nat) : Kt Empty (List α) OZ := ⟨fun l => l.elim, fun l => l.elim, fun c => ow c :: deads (n - 1), true, fun _ _ _ _ => False, none⟩
def cFN (Γ : Gm) (B : Bs) (ρ : Sto) {α S : Type} [Rp α] (m : Option (List α × S)) (sto : S → Sto) : TE := fun σ H Q => ∃ G l s, At Γ B ρ G H σ ∧ m = some (l, s) ∧ ∀ d us G' H', Le G G' → At Γ B (sto s) G' H' σ → H' d = none → RpL Γ G' us l → Q (.ref d) (upd H' d (.lst us))
abbrev XFN (X : Cx) (Γ : Gm) (B : Bs) (ρ : Sto) (e : Expr) {α S : Type} [Rp α] (m : Option (List α × S)) (sto : S → Sto) : Prop := PE X e (cFN Γ B ρ m sto)
section
variable {X : Cx} {Γ : Gm} {B : Bs} {L β C : Type} [Rp β] {F : Kt L β C} {ρ ρ' : Sto} {N : List Str} {sc : Scope} {k j : Nat} {fx : List Nat} {W : WX} {M : List Addr} {pos apos cpos p p' p1 p2 p3 : Pos} {e a b o tg it : Expr} {es : List Expr} {body : List Stmt} {x : Str} {S S1 S2 : Type} {sto : S → Sto} {sto1 : S1 → Sto} {sto2 : S2 → Sto}
variable {α γ τ : Type} [Rp α] [Rp γ] [RpA τ]
end
end Sim
namespace Sim
open PySem L2
open Rp (rep)
open At1 (toV)
open Ow (own)
open RpA (repA stoA)
section
variable {X : Cx} {Γ : Gm} {B : Bs} {L β C : Type} [Rp β] {F : Kt L β C} {ρ ρ' : Sto} {N : List Str} {sc : Scope} {k : Nat} {fx : List Nat} {W : WX} {M : List Addr} {pos p1 p2 : Pos} {e : Expr} {c : Nat} {nm : List Str} {τ τ' : Type} [Cnt τ] [Cnt τ']
variable {α γ : Type} [Rp α] [Rp γ] {G H : Hp} {σ : L2.St} {i j : Nat}
end
structure RDf where
  web : WebD
  done : List (List (Tt × Tt))
instance : Cnt RDf := ⟨fun r => [vl r.web, vl r.done]⟩
structure SDl where
  first : WebD
  rounds : RD
  deeds : List (Tt × List OV)
  lines : List Tt
instance : Cnt SDl := ⟨fun s => [vl s.first, ow (BI.mk s.rounds : ORd), ow (OL.mk s.deeds), vl s.lines]⟩
end Sim
namespace Sim
open PySem L2
open Rp (rep)
open At1 (toV)
open Ow (own)
open RpA (repA stoA)
section
variable {X : Cx} {Γ : Gm} {B : Bs} {ρ : Sto} {N : List Str} {sc : Scope} {k : Nat} {pos p : Pos} {a : Expr} {α : Type} [Rp α]
end
end Sim
namespace Sim
open PySem L2
open Rp (rep)
open At1 (toV)
open Ow (own)
open RpA (repA stoA)
section
variable {X : Cx} {Γ : Gm} {B : Bs} {ρ ρ' : Sto} {N : List Str} {sc : Scope} {k : Nat} {fx : List Nat} {W : WX} {M : List Addr} {pos p p' : Pos} {e a b o tg it elt : Expr} {es : List Expr} {S : Type} {sto : S → Sto}
variable {α β γ : Type} [Rp α] [Rp β] [Rp γ]
end
end Sim
namespace Sim
open PySem L2
open Rp (rep)
open At1 (toV)
open Ow (own)
open RpA (repA stoA)
def istr (i : Int) : Option Tt := if h : PyData.strOk (toString i : Str) = true ∧ i.natAbs.log2 < 1920 then some ⟨toString i, h.1⟩ else none
def sindex (x y : Tt) : Option Int := match Builtin.Str.occurrences x.s y.s 0 x.s.length 1 with
  | i :: _ => some (i : Int)
  | [] => none
def lput {α : Type} (xs : List α) (i : Int) (y : α) : Option (List α) := (ixN xs.length i).bind fun j => some (xs.set j y)
section
variable {X : Cx} {Γ : Gm} {B : Bs} {L β C : Type} [Rp β] {F : Kt L β C} {ρ ρ' : Sto} {N : List Str} {sc : Scope} {k j : Nat} {fx : List Nat} {W : WX} {M : List Addr} {pos apos cpos p p' p1 p2 : Pos} {e a b o tg it elt ix : Expr} {es : List Expr} {x : Str} {S S1 : Type} {sto : S → Sto}
variable {α γ : Type} [Rp α] [Rp γ]
end
end Sim
namespace Sim
open PySem L2
open Rp (rep)
open At1 (toV)
open Ow (own)
open RpA (repA stoA)
@[irreducible] def pand (i j : Int) : Option Int := if j = 1 ∧ 0 ≤ i then some (i % 2) else none
section
variable {X : Cx} {Γ : Gm} {B : Bs} {ρ : Sto} {N : List Str} {sc : Scope} {k : Nat} {pos p p' : Pos} {e a : Expr} {α : Type} [Rp α]
end
end Sim
namespace Sim
open PySem L2
open Rp (rep)
open At1 (toV)
open Ow (own)
open RpA (repA stoA)
abbrev TWb : Type := T3 (List Tt) (List Tt) (List (Tt × Tt))
inductive UW where
  | t (s : Tt)
  | w (q : TWb)
instance : Rp UW := ⟨fun Γ G v y => match y with
  | .t s => v = .str s.s
  | .w q => rep Γ G v q, fun {_ _ _ _ y} e h => by
  cases y with
  | t s => exact h
  | w q => exact Rp.mono e h⟩
def UW.txt? : UW → Option Tt
  | .t s => some s
  | _ => none
def UW.web? : UW → Option TWb
  | .w q => some q
  | _ => none
def UW.dy : UW → Dy
  | .t s => .t s
  | .w _ => .tp
instance : Cst Tt UW := ⟨fun t => some (.t t), fun h r => by cases h; exact rep1 r⟩
instance : Cst TWb UW := ⟨fun t => some (.w t), fun h r => by cases h; exact r⟩
instance : Cst UW Tt := ⟨UW.txt?, fun {_ _ _ a _} h r => by cases a <;> first | (cases h; exact r) | cases h⟩
instance : Cst UW TWb := ⟨UW.web?, fun {_ _ _ a _} h r => by cases a <;> first | (cases h; exact r) | cases h⟩
instance : Cst UW Dy := ⟨fun y => some y.dy, fun {_ _ _ a _} h r => by
  cases h
  cases a with
  | t s => exact r
  | w q => obtain ⟨a, x, y, z, h1, h2, _⟩ := r; exact ⟨a, _, h1, h2⟩⟩
def Dy.isS : Dy → Bool
  | .t _ => true
  | _ => false
instance {α β : Type} [Rp α] [Rp β] [Cst α β] : Cst (TL α) (TL β) := ⟨fun x => (cstL β x.l).bind fun y => some ⟨y⟩, fun {_ _ _ x y} h ⟨a, vs, h1, h2, h3⟩ => by
  have h : ((cstL β x.l).bind fun y => some (TL.mk y)) = some y := h
  cases e : cstL β x.l with
  | none => rw [e] at h; cases h
  | some z => rw [e] at h; cases h; exact ⟨a, vs, h1, h2, cstL_ok e h3⟩⟩
def ostr : OV → Option Tt
  | .u => none
  | .n i => istr i
  | .w t => some t
structure Ad (p : Addr) where
  u : Unit := ()
instance {p : Addr} : Rp (Ad p) := ⟨fun _ _ v _ => v = .ref p, fun _ h => h⟩
structure Pn (p : Addr) (δ : Type) where
  t : δ
instance instOwPn {p : Addr} {δ : Type} [I : Ow δ] : Ow (Pn p δ) where
  own := fun Γ G H v fp b => v = .ref p ∧ I.own Γ G H v fp b.t
  stay := fun h e k => ⟨h.1, I.stay h.2 e k⟩
  there := fun h x hx => I.there h.2 x hx
  nt := fun h x hx => I.nt h.2 x hx
  F := Unit
  iF := inferInstance
  toF := fun _ => ()
  canF := false
  fz := fun h => by cases h
structure SDr (p : Addr) where
  first : WebD
  rounds : RD
  deeds : List (Tt × List OV)
  lines : List Tt
instance {p : Addr} : Cnt (SDr p) := ⟨fun s => [vl s.first, ow (Pn.mk (p := p) (BI.mk s.rounds : ORd)), ow (OL.mk s.deeds), ow (OL.mk s.lines)]⟩
def tPrt (Γ : Gm) (c : Nat) (nm : List Str) (j : Nat) : TE := fun σ H Q => ∃ xx dx vs u, σ[0]? = some (some (.ref xx)) ∧ H xx = some (.ins (Γ.C c) dx (nm.zip vs)) ∧ vs.length = nm.length ∧ vs[j]? = some u ∧ Q u H
def specRP (Γ : Gm) (c : Nat) (nm : List Str) (j : Nat) : Sp := fun vs H Q _ => ∃ xx dx us u, vs = [.ref xx] ∧ H xx = some (.ins (Γ.C c) dx (nm.zip us)) ∧ us.length = nm.length ∧ us[j]? = some u ∧ Q u H
structure CalRP (Γ : Gm) (c : Nat) (nm : List Str) (x : Str) (k j : Nat) : Prop where
  ex : ∃ a fd ps, FnOk Γ.P Γ.w Γ.K Γ.mg Γ.base CX0 k a fd ps (specRP Γ c nm j) ∧ Meth Γ.K (Γ.C c) x a ∧ Binds Γ.K fd ps []
section
variable {Γ : Gm} {x f qual : Str} {st : Stmt} {N : List Str} {k c j : Nat} {nm : List Str} {pos p1 p2 : Pos}
end
section
variable {X : Cx} {Γ : Gm} {B : Bs} {L β C : Type} [Rp β] {F : Kt L β C} {ρ ρ' : Sto} {N : List Str} {sc : Scope} {k j : Nat} {fx : List Nat} {W : WX} {M : List Addr} {pos apos p p' p1 p2 p3 : Pos} {e a b o : Expr} {es : List Expr} {x y : Str} {S : Type} {sto : S → Sto}
variable {α γ : Type} [Rp α] [Rp γ]
def okE {α : Type} : Except Er α → Option α
  | .ok z => some z
  | .error _ => none
variable {cn : Nat} {nm : List Str} {τb : Type} [Cnt τb] {tb : τb}
end
end Sim
namespace Sim
open PySem L2
open Rp (rep)
open At1 (toV)
open Ow (own)
open RpA (repA stoA)
structure OwR (δ : Type) where
  t : δ
instance {δ : Type} : Rp (OwR δ) := ⟨fun _ _ _ _ => True, fun _ h => h⟩
theorem SlotsOk.fewer {Γ : Gm} {G H : Hp} {σ : L2.St} {ρ ρ' : Sto} {φ : Nat → List Addr} (h : SlotsOk Γ G H σ ρ φ) (hl : ρ'.length = ρ.length) (hs : ∀ j : Nat, ρ'[j]? = ρ[j]? ∨ ρ'[j]? = some Slot.dead) :
    ∃ φ', SlotsOk Γ G H σ ρ' φ' ∧ ∀ j, ∀ a ∈ φ' j, a ∈ φ j ∧ ρ'[j]? = ρ[j]? := by
  classical
  have sub : ∀ j, ∀ a ∈ (if ρ'[j]? = ρ[j]? then φ j else []), a ∈ φ j ∧ ρ'[j]? = ρ[j]? := fun j a ha => by
    by_cases z : ρ'[j]? = ρ[j]?
    · rw [if_pos z] at ha; exact ⟨ha, z⟩
    · rw [if_neg z] at ha; simp at ha
  refine ⟨fun j => if ρ'[j]? = ρ[j]? then φ j else [], ⟨by rw [h.len, hl], fun j s e => ?_, fun i j x hx hy => h.apart i j x (sub i x hx).1 (sub j x hy).1, fun j hj => ?_⟩, sub⟩
  · by_cases z : ρ'[j]? = ρ[j]?
    · rw [if_pos z]; exact h.ok j s (by rw [← z]; exact e)
    · rw [if_neg z]
      rcases hs j with q | q
      · exact absurd q z
      · rw [q] at e
        cases e
        have hj : j < ρ'.length := (List.getElem?_eq_some_iff.mp q).1
        have hσ : j < σ.length := by rw [h.len, ← hl]; exact hj
        exact ⟨σ[j], List.getElem?_eq_getElem hσ, rfl⟩
  · by_cases z : ρ'[j]? = ρ[j]?
    · rw [if_pos z]; exact h.out j (by rw [← hl]; exact hj)
    · rw [if_neg z]
theorem OwRet.fewer {Γ : Gm} {B : Bs} {G H : Hp} {σ : L2.St} {ρ ρ' : Sto} {fp : List Addr} (o : OwRet Γ B ρ G H σ fp) (hl : ρ'.length = ρ.length) (hs : ∀ j : Nat, ρ'[j]? = ρ[j]? ∨ ρ'[j]? = some Slot.dead) : OwRet Γ B ρ' G H σ fp := by
  obtain ⟨φ, h1, h2, h3, h4⟩ := o
  obtain ⟨φ', k1, k2⟩ := h1.fewer hl hs
  exact ⟨φ', k1, fun i a ha => h2 i a (k2 i a ha).1, fun i a ha => h3 i a (k2 i a ha).1, h4⟩
theorem wks_fewer (ρ : Sto) (ops : List Nat) : ∀ j : Nat, (Sim.wks ρ (ops.map fun i => (i, false)))[j]? = ρ[j]? ∨ (Sim.wks ρ (ops.map fun i => (i, false)))[j]? = some Slot.dead := fun j => by
  unfold Sim.wks
  rw [wksFrom_get]
  cases e : ρ[j]? with
  | none => exact .inl rfl
  | some s =>
    rcases opAt_drop ops (0 + j) s with z | z
    · right; rw [Option.map_some, z]
    · left; rw [Option.map_some, z]
theorem OwRet.drops {Γ : Gm} {B : Bs} {G H : Hp} {σ : L2.St} {ρ : Sto} {fp : List Addr} (o : OwRet Γ B ρ G H σ fp) (ops : List Nat) : OwRet Γ B (Sim.wks ρ (ops.map fun i => (i, false))) G H σ fp :=
  o.fewer (wksFrom_len _ ρ 0) (wks_fewer ρ ops)
def OpnS (Γ : Gm) (B : Bs) (G H : Hp) (σ : L2.St) (v : V) {δ : Type} (I : Ow δ) (w : δ) (up : δ → Sto) : Prop := ∃ fp, I.own Γ G H v fp w ∧ (∀ x ∈ fp, G x = none) ∧
  ∀ w' G' H' fp', GrowF fp G H G' H' → (∀ y ∈ fp', G' y = none ∧ (y ∈ fp ∨ H y = none)) → I.own Γ G' H' v fp' w' → At Γ B (up w') G' H' σ ∧
    ∀ fr, (∀ y ∈ fr, G' y = none ∧ (y ∈ fp ∨ H y = none)) → (∀ y ∈ fp', y ∉ fr) → OwRet Γ B (up w') G' H' σ fr
theorem OpnS.opn {Γ : Gm} {B : Bs} {G H : Hp} {σ : L2.St} {v : V} {δ : Type} {I : Ow δ} {w : δ} {up : δ → Sto} (o : OpnS Γ B G H σ v I w up) : Opn Γ B G H σ v I w up := by
  obtain ⟨fp, h1, h2, h3⟩ := o
  exact ⟨fp, h1, h2, fun w' G' H' fp' g hf ow' => (h3 w' G' H' fp' g hf ow').1⟩
theorem OpnS.grow {Γ : Gm} {B : Bs} {G H G' H' : Hp} {σ : L2.St} {v : V} {δ : Type} {I : Ow δ} {w : δ} {up : δ → Sto} (o : OpnS Γ B G H σ v I w up) (g : Grow G H G' H') : OpnS Γ B G' H' σ v I w up := by
  obtain ⟨fp, h1, h2, h3⟩ := o
  have nn : ∀ {y : Addr}, H' y = none → H y = none := fun {y} z => by
    cases q : H y with
    | none => rfl
    | some u => rw [g.leH y u q] at z; cases z
  refine ⟨fp, I.stay h1 g.leG fun x _ o e => g.leH x o e, fun x hx => (g.thin x (I.there h1 x hx) (h2 x hx)).none (I.nt h1 x hx), fun w' G2 H2 fp' gf hf ow' => ?_⟩
  obtain ⟨a1, a2⟩ := h3 w' G2 H2 fp' (GrowF.comp g gf) (fun y hy => ⟨(hf y hy).1, (hf y hy).2.imp_right nn⟩) ow'
  exact ⟨a1, fun fr hfr dj => a2 fr (fun y hy => ⟨(hfr y hy).1, (hfr y hy).2.imp_right nn⟩) dj⟩
theorem OpnS.at {Γ : Gm} {B : Bs} {G H : Hp} {σ : L2.St} {v : V} {δ : Type} {I : Ow δ} {w : δ} {up : δ → Sto} (o : OpnS Γ B G H σ v I w up) (s : Sub G H) : At Γ B (up w) G H σ := o.opn.at s
theorem OpnS.part {Γ : Gm} {B : Bs} {G H : Hp} {σ : L2.St} {v : V} {c : Nat} {nm : List Str} {τ : Type} [Cnt τ] {t : τ} {up : BI c nm τ → Sto} (o : OpnS Γ B G H σ v instOwBI (BI.mk t) up) {j : Nat} {δ : Type} {I : Ow δ} {w : δ} (hj : (Cnt.slots t)[j]? = some (.own δ I w)) (st : δ → τ) (hst : ∀ w', Cnt.slots (st w') = (Cnt.slots t).set j (.own δ I w')) :
    ∃ x dx vs u, v = .ref x ∧ H x = some (.ins (Γ.C c) dx (nm.zip vs)) ∧ vs.length = nm.length ∧ vs[j]? = some u ∧ OpnS Γ B G H σ u I w fun w' => up (BI.mk (st w')) := by
  obtain ⟨fp, h1, h2, h3⟩ := o
  have h1' : BIow Γ G H v fp c nm (Cnt.slots t) := h1
  obtain ⟨x, dx, vs, φ, e1, e2, e3, e4, e5, e6, e7⟩ := id h1'
  obtain ⟨o, k1, u, k2, ow⟩ := e5.ok j _ hj
  have k1 : (vs.map some)[j]? = some (some u) := by rw [k1, k2]
  have eu : vs[j]? = some u := by
    rw [List.getElem?_map] at k1
    cases q : vs[j]? with
    | none => rw [q] at k1; cases k1
    | some u' => rw [q] at k1; cases k1; rfl
  have hjl : j < (Cnt.slots t).length := (List.getElem?_eq_some_iff.mp hj).1
  have inF : ∀ y ∈ φ j, y ∈ fp := fun y hy => by rw [e7]; exact List.mem_cons_of_mem _ (List.mem_cons_of_mem _ (e5.inP hy))
  refine ⟨x, dx, vs, u, e1, e3, e4, eu, φ j, ow, fun y hy => h2 y (inF y hy), fun w' G' H' fj' g hf ow' => ?_⟩
  have sw := e5.swap (s := .own δ I w') hjl k1 g (fun y hy => (hf y hy).2) ⟨u, rfl, ow'⟩
  have nx : ∀ i, x ∉ setφ φ j fj' i ∧ dx ∉ setφ φ j fj' i := fun i => by
    constructor
    · intro z
      rcases mem_setφ z with ⟨_, z⟩ | ⟨_, z⟩
      · rcases (hf x z).2 with w | w
        · exact (e6 j).1 w
        · rw [e3] at w; cases w
      · exact (e6 i).1 z
    · intro z
      rcases mem_setφ z with ⟨_, z⟩ | ⟨_, z⟩
      · rcases (hf dx z).2 with w | w
        · exact (e6 j).2 w
        · rw [e2] at w; cases w
      · exact (e6 i).2 z
  have inp : ∀ y, y ∈ fp → y ∉ φ j → G' y = none ∧ (y ∈ fp ∨ H y = none) := fun y hy hn => ⟨g.th hn (h1'.there y hy).1 (h2 y hy) (h1'.there y hy).2, .inl hy⟩
  -- what the whole's places are
  have all : ∀ y ∈ x :: dx :: prt (setφ φ j fj') ((Cnt.slots t).set j (.own δ I w')).length, y ∈ fj' ∨ (y ∈ fp ∧ y ∉ φ j) := fun y hy => by
    rcases List.mem_cons.mp hy with z | hy
    · exact .inr ⟨by rw [z, e7]; simp, by rw [z]; exact (e6 j).1⟩
    · rcases List.mem_cons.mp hy with z | hy
      · exact .inr ⟨by rw [z, e7]; simp, by rw [z]; exact (e6 j).2⟩
      · obtain ⟨i, hi, hy⟩ := mem_prt.mp hy
        rcases mem_setφ hy with ⟨_, z⟩ | ⟨hij, z⟩
        · exact .inl z
        · exact .inr ⟨by rw [e7]; exact List.mem_cons_of_mem _ (List.mem_cons_of_mem _ (e5.inP z)), fun w => hij (e5.apart i j y z w)⟩
  obtain ⟨a1, a2⟩ := h3 (BI.mk (st w')) G' H' (x :: dx :: prt (setφ φ j fj') ((Cnt.slots t).set j (.own δ I w')).length) (g.sup inF) (fun y hy => by
    rcases all y hy with z | ⟨z1, z2⟩
    · exact ⟨(hf y z).1, (hf y z).2.imp_left (inF y)⟩
    · exact inp y z1 z2) (by
    show BIow Γ G' H' v _ c nm (Cnt.slots (st w'))
    rw [hst]
    exact ⟨x, dx, vs, _, e1, g.keep dx _ (e6 j).2 e2, g.keep x _ (e6 j).1 e3, e4, sw, nx, rfl⟩)
  refine ⟨a1, fun fr hfr dj => a2 fr (fun y hy => ⟨(hfr y hy).1, (hfr y hy).2.imp_left (inF y)⟩) fun y hy hm => ?_⟩
  rcases all y hy with z | ⟨z1, z2⟩
  · exact dj y z hm
  · rcases (hfr y hm).2 with q | q
    · exact z2 q
    · exact (h1'.there y z1).1 q
def cOwS (Γ : Gm) (B : Bs) (ρ : Sto) {δ : Type} (I : Ow δ) (w : δ) (up : δ → Sto) : TE := fun σ H Q => ∃ G, At Γ B ρ G H σ ∧ ∀ v G' H', Grow G H G' H' → OpnS Γ B G' H' σ v I w up → Q v H'
abbrev XOwS (X : Cx) (Γ : Gm) (B : Bs) (ρ : Sto) (e : Expr) {δ : Type} [I : Ow δ] (w : δ) (up : δ → Sto) : Prop := PE X e (cOwS Γ B ρ I w up)
section
variable {X : Cx} {Γ : Gm} {B : Bs} {ρ ρ' : Sto} {N : List Str} {sc : Scope} {k j : Nat} {fx : List Nat} {W : WX} {M : List Addr} {pos p p' p1 p2 apos : Pos} {e a b o : Expr} {st : Stmt} {es : List Expr} {x f : Str} {c : Nat} {nm : List Str} {τ : Type} [Cnt τ] {t : τ} {δ : Type}
end
end Sim
namespace Sim
open PySem L2
open Rp (rep)
open At1 (toV)
open Ow (own)
open RpA (repA stoA)
def specGO (Γ : Gm) {τ ζ δ : Type} [I : Ow δ] (sin : τ → Sto) (sout : ζ → Sto) (f : τ → Option (Except Er δ × ζ)) : Sp := fun vs H Q E => ∃ G t φ r z, Sub G H ∧ SlotsOk Γ G H (vs.map some) (sin t) φ ∧ (∀ i, ∀ a ∈ φ i, G a = none) ∧ f t = some (r, z) ∧ match r with
  | .ok b => ∀ v fp G' H' φ', GrowF (prt φ (sin t).length) G H G' H' → own Γ G' H' v fp b → SlotsOk Γ G' H' (vs.map some) (sout z) φ' → (∀ i, ∀ y ∈ φ' i, G' y = none ∧ (y ∈ prt φ (sin t).length ∨ H y = none)) → (∀ i, ∀ y ∈ φ' i, y ∉ fp) → (∀ y ∈ fp, G' y = none ∧ (y ∈ prt φ (sin t).length ∨ H y = none)) → Q v H'
  | .error e => ∀ cls d G' H' φ', GrowF (prt φ (sin t).length) G H G' H' → SlotsOk Γ G' H' (vs.map some) (sout z) φ' → (∀ i, ∀ y ∈ φ' i, G' y = none ∧ (y ∈ prt φ (sin t).length ∨ H y = none)) → IsEr Γ e cls d H' → E cls d H'
abbrev ktGO {δ ζ : Type} [I : Ow δ] (sout : ζ → Sto) (m : Nat) (W : WX) : Kt Empty (OwR δ) ζ := ⟨fun l => l.elim, fun l => l.elim, fun z => sout z ++ deads m, false, W, some fun Γ G H v fp b => I.own Γ G H v fp b.t⟩
def retGO {S δ ζ : Type} : Fl S Empty (OwR δ) ζ → Option (Except Er δ × ζ)
  | .ret b z => some (.ok b.t, z)
  | .err e z => some (.error e, z)
  | _ => none
def retJO {S δ ζ : Type} : Fl S Empty (OwR δ) ζ → Option (δ × ζ)
  | .ret b z => some (b.t, z)
  | _ => none
structure CalGO (Γ : Gm) (x : Str) (k : Nat) {τ ζ δ : Type} [I : Ow δ] (sin : τ → Sto) (sout : ζ → Sto) (f : τ → Option (Except Er δ × ζ)) : Prop where
  ex : ∃ a fd ps, FnOk Γ.P Γ.w Γ.K Γ.mg Γ.base (L2N.CX Γ.P Γ.w) k a fd ps (specGO Γ sin sout f) ∧ Γ.mg x = some (.ref a) ∧ PySem.W.keepIn Γ.K (.ref a) = true ∧ Binds Γ.K fd ps []
structure CalGMO (Γ : Gm) (c : Nat) (x : Str) (k : Nat) {τ ζ δ : Type} [I : Ow δ] (sin : τ → Sto) (sout : ζ → Sto) (f : τ → Option (Except Er δ × ζ)) : Prop where
  ex : ∃ a fd ps, FnOk Γ.P Γ.w Γ.K Γ.mg Γ.base (L2N.CX Γ.P Γ.w) k a fd ps (specGO Γ sin sout f) ∧ Meth Γ.K (Γ.C c) x a ∧ Binds Γ.K fd ps []
section
variable {Γ : Gm} {x qual : Str} {st : Stmt} {N ps : List Str} {k : Nat} {τ ζ S δ : Type} [I : Ow δ] {sin : τ → Sto} {sout : ζ → Sto} {sto : S → Sto}
end
def cXO (Γ : Gm) (B : Bs) (E : L2.St → XK) (ρ : Sto) {δ S : Type} [I : Ow δ] (m : Option (Except Er δ × S)) (sto : S → Sto) : TE := fun σ H Q => ∃ G r s, At Γ B ρ G H σ ∧ m = some (r, s) ∧ match r with
  | .ok b => ∀ v fp G' H', At Γ B (sto s) G' H' σ → own Γ G' H' v fp b → OwRet Γ B (sto s) G' H' σ fp → Q v H'
  | .error e => ∀ cls d G' H', At Γ B (sto s) G' H' σ → IsEr Γ e cls d H' → E σ cls d H'
abbrev XO' (X : Cx) (Γ : Gm) (B : Bs) (E : L2.St → XK) (ρ : Sto) (e : Expr) {δ S : Type} [I : Ow δ] (m : Option (Except Er δ × S)) (sto : S → Sto) : Prop := PE X e (cXO Γ B E ρ m sto)
end Sim
namespace Sim
open PySem L2
open Rp (rep)
open At1 (toV)
open Ow (own)
open RpA (repA stoA)
section
variable {X : Cx} {Γ : Gm} {B : Bs} {L β C : Type} [Rp β] {F : Kt L β C} {ρ ρ' : Sto} {N : List Str} {sc : Scope} {k j : Nat} {fx : List Nat} {W : WX} {M : List Addr} {pos p p' p1 p2 apos : Pos} {e a b o : Expr} {st : Stmt} {es : List Expr} {x f : Str} {c : Nat} {nm : List Str} {τb : Type} [Cnt τb] {tb : τb}
variable {δ ε τ τ' ζ : Type} [RpA τ] [J : Ow ε] {sin : τ' → Sto} {sout : ζ → Sto} {g : τ' → Option (Except Er ε × ζ)} {E : L2.St → XK}
end
def exSetO {δ S L β C : Type} (cc : S → C) : Except Er δ × S → Fl (δ × S) L β C
  | (.ok b, s) => .nx (b, s)
  | (.error e, s) => .err e (cc s)
def exRetO {δ S T L C : Type} (cc : S → C) : Except Er δ × S → Fl T L (OwR δ) C
  | (.ok b, s) => .ret ⟨b⟩ (cc s)
  | (.error e, s) => .err e (cc s)
section
variable {X : Cx} {Γ : Gm} {B : Bs} {L β C : Type} [Rp β] {F : Kt L β C} {ρ ρ' : Sto} {N : List Str} {sc : Scope} {k j : Nat} {fx : List Nat} {W : WX} {M : List Addr} {pos p p' p1 p2 apos : Pos} {e a b o : Expr} {es : List Expr} {x : Str} {S S1 : Type} {sto : S → Sto} {sto1 : S1 → Sto}
variable {δ : Type} [I : Ow δ]
end
section
variable {X : Cx} {Γ : Gm} {B : Bs} {L C δ : Type} [I : Ow δ] {F : Kt L (OwR δ) C} {ρ ρ' : Sto} {N : List Str} {sc : Scope} {k j : Nat} {fx : List Nat} {W : WX} {M : List Addr} {pos p p' p1 p2 apos : Pos} {e a b o : Expr} {es : List Expr} {x : Str} {S S1 : Type} {sto : S → Sto} {sto1 : S1 → Sto}
end
end Sim
namespace Sim
open PySem L2
open Rp (rep)
open At1 (toV)
open Ow (own)
open RpA (repA stoA)
def cXN (Γ : Gm) (B : Bs) {L β C : Type} (F : Kt L β C) (ρ : Sto) {δ S : Type} [I : Ow δ] (m : Option (Except (Er × C) (δ × S))) (sto : S → Sto) : TE := fun σ H Q => ∃ G r, At Γ B ρ G H σ ∧ m = some r ∧ match r with
  | .ok y => ∀ v fp G' H', At Γ B (sto y.2) G' H' σ → own Γ G' H' v fp y.1 → OwRet Γ B (sto y.2) G' H' σ fp → Q v H'
  | .error y => ∀ cls d G' H', At Γ B (F.str y.2) G' H' σ → IsEr Γ y.1 cls d H' → F.W cls d σ H'
abbrev XXN (X : Cx) (Γ : Gm) (B : Bs) {L β C : Type} (F : Kt L β C) (ρ : Sto) (e : Expr) {δ S : Type} [I : Ow δ] (m : Option (Except (Er × C) (δ × S))) (sto : S → Sto) : Prop := PE X e (cXN Γ B F ρ m sto)
def exOL {α S C : Type} : Except (Er × C) (α × S) → Except (Er × C) (OL α × S)
  | .ok q => .ok (OL.mk [q.1], q.2)
  | .error q => .error q
def exMapL {α β S C : Type} (f : α × Unit → Option (List β)) : Except (Er × C) (α × S) → Option (Except (Er × C) (OL β × S))
  | .ok q => (f (q.1, ())).bind fun z => some (.ok (OL.mk z, q.2))
  | .error q => some (.error q)
def exRetN {δ S T L C : Type} (cc : S → C) : Except (Er × C) (δ × S) → Fl T L (OwR δ) C
  | .ok q => .ret ⟨q.1⟩ (cc q.2)
  | .error q => .err q.1 q.2
section
variable {X : Cx} {Γ : Gm} {B : Bs} {L β C : Type} [Rp β] {F : Kt L β C} {ρ ρ' : Sto} {N : List Str} {sc : Scope} {k j : Nat} {fx : List Nat} {W : WX} {M : List Addr} {pos p p' p1 p2 apos : Pos} {e a b o : Expr} {es : List Expr} {x : Str} {S S1 : Type} {sto : S → Sto} {sto1 : S1 → Sto}
variable {α γ δ : Type} [Rp α] [Rp γ]
end
section
variable {X : Cx} {Γ : Gm} {B : Bs} {L C δ : Type} [I : Ow δ] {F : Kt L (OwR δ) C} {ρ ρ' : Sto} {N : List Str} {sc : Scope} {k j : Nat} {fx : List Nat} {W : WX} {M : List Addr} {pos p p' p1 p2 apos : Pos} {e a b o : Expr} {es : List Expr} {x : Str} {S S1 : Type} {sto : S → Sto} {sto1 : S1 → Sto}
end
end Sim
namespace Sim
open PySem L2
open Rp (rep)
open At1 (toV)
open Ow (own)
open RpA (repA stoA)
structure OTp (δ β : Type) where
  s : δ
  n : β
instance instOwOTp {δ β : Type} [I : Ow δ] [Rp β] : Ow (OTp δ β) where
  own := fun Γ G H v fp b => ∃ t x y, v = .ref t ∧ G t = some (.tup [x, y]) ∧ I.own Γ G H x fp b.s ∧ rep Γ G y b.n
  stay := fun ⟨t, x, y, h1, h2, h5, h6⟩ e k => ⟨t, x, y, h1, e _ _ h2, I.stay h5 e k, Rp.mono e h6⟩
  there := fun ⟨t, x, y, h1, h2, h5, h6⟩ a ha => I.there h5 a ha
  nt := fun ⟨t, x, y, h1, h2, h5, h6⟩ a ha => I.nt h5 a ha
  F := Unit
  iF := inferInstance
  toF := fun _ => ()
  canF := false
  fz := fun h => by cases h
theorem SlotsOk.vals {Γ : Gm} {G H : Hp} {vs : List V} {τ : Type} [RpA τ] {t : τ} (r : repA Γ G vs t) : SlotsOk Γ G H (vs.map some) (stoA t) fun _ => [] := by
  have q := RpA.okA (H := H) r
  have hl : (stoA t).length = RpA.num τ := RpA.lenA t
  refine ⟨by simp [q.1, hl], fun i sl e => ?_, fun i j y h h' => by simp at h, fun i hi => rfl⟩
  obtain ⟨u, q1, q2⟩ := q.2 i sl e
  exact ⟨some u, by simp [q1], q2⟩
section
variable {X : Cx} {Γ : Gm} {B : Bs} {L β C : Type} [Rp β] {F : Kt L β C} {ρ ρ' : Sto} {N : List Str} {sc : Scope} {k j : Nat} {fx : List Nat} {W : WX} {M : List Addr} {pos p p' p1 p2 apos : Pos} {e a b o : Expr} {st : Stmt} {es : List Expr} {x f : Str}
variable {ε τ τ' ζ : Type} [RpA τ] [J : Ow ε] {sin : τ' → Sto} {sout : ζ → Sto} {g : τ' → Option (Except Er ε × ζ)} {E : L2.St → XK}
end
end Sim
namespace Sim
open PySem L2
open Rp (rep)
open At1 (toV)
open Ow (own)
open RpA (repA stoA)
structure InT (Γ : Gm) (x : Str) (c : Nat) : Prop where
  g : Γ.mg x = some (.ref (Γ.C c))
  ins : C8.InsC Γ.K (Γ.C c)
section
variable {X : Cx} {Γ : Gm} {B : Bs} {L C δ γ : Type} [I : Ow δ] [Rp γ] {ρ ρ' : Sto} {N : List Str} {sc : Scope} {k j : Nat} {fx : List Nat} {W : WX} {M : List Addr} {pos p p' p1 p2 p3 apos : Pos} {e a b o : Expr} {st : Stmt} {es : List Expr} {x y f : Str} {S : Type} {sto : S → Sto}
end
section
variable {X : Cx} {Γ : Gm} {B : Bs} {L C δ γ : Type} [I : Ow δ] [Rp γ] {F : Kt L (OwR (OTp δ γ)) C} {ρ ρ' : Sto} {N : List Str} {sc : Scope} {k j : Nat} {fx : List Nat} {W : WX} {M : List Addr} {pos p p' p1 p2 apos : Pos} {e a b o : Expr} {x : Str} {S : Type} {sto : S → Sto}
end
end Sim
namespace L2N
open PySem PySem.Spec PyProof.Rows L2
section
variable {X : Cx} {e : Expr} {es : List Expr} {ta : TA} {p pos : Pos}
end
end L2N
namespace Sim
open PySem L2
open Rp (rep)
open At1 (toV)
open Ow (own)
open RpA (repA stoA)
structure IlT (Γ : Gm) (x : Str) : Prop where
  g : Γ.mg x = some (.ref (Γ.C 9))
  oex : OexC Γ.K (Γ.C 9)
  init : ∃ fI fd, PySem.W.findIn Γ.K (.ref (Γ.C 9)) "__init__" = some (some (.ref fI)) ∧ PySem.W.typeIn Γ.K (.ref fI) = some (.type "function") ∧ (∀ CX k, FnOk Γ.P Γ.w Γ.K Γ.mg Γ.base CX (k + 1) fI fd ["self", "line"] (IL.spI (Γ.C 9))) ∧ Binds Γ.K fd ["self", "line"] []
section
variable {X : Cx} {Γ : Gm} {B : Bs} {L β C : Type} [Rp β] {F : Kt L β C} {ρ ρ' : Sto} {N : List Str} {sc : Scope} {k j : Nat} {fx : List Nat} {W : WX} {M : List Addr} {pos p p' p1 p2 apos : Pos} {e a b o : Expr} {st : Stmt} {es : List Expr} {x f : Str} {S : Type} {sto : S → Sto}
end
end Sim
namespace L2H
open PySem PySem.Spec PyProof.Rows L2
section
variable {X : Cx}
end
end L2H
namespace Sim
open PySem L2
open Rp (rep)
open At1 (toV)
open Ow (own)
open RpA (repA stoA)
structure Ex9 (Γ : Gm) (cs : List Nat) : Prop where
  x0 : PySem.W.exmOne Γ.K (.ref (Γ.C 9)) (.ref (Γ.C 0)) = some true
  k9 : ∀ i, i ∈ cs → PySem.W.kitOne Γ.K (.ref (Γ.C i)) (.ref (Γ.C 9)) = some false
def hit9 (cs : List Nat) (e : Er) : Bool := decide (e.cls = 9) || decide (e.cls ∈ cs)
section
variable {X : Cx} {Γ : Gm} {B : Bs} {L β C : Type} [Rp β] {F : Kt L β C} {ρ ρ' : Sto} {N : List Str} {sc : Scope} {k : Nat} {fx : List Nat} {W : WX} {M : List Addr} {pos pos' p p' p2 p3 p4 : Pos} {e a b o tg it elt kx : Expr} {st : Stmt} {sts suite : List Stmt} {b₀ : Stmt} {es : List Expr} {S Sx : Type} {sto : S → Sto}
structure DokC (X : Cx) (W : WX) : Prop where
  tk : L2.Takes X W
  pa : ∀ hd : Option Value, PassesOwnAt (model X.prog X.w) (X.A.mark hd) X.A X.env X.xe
def tryF {S L β C Sx : Type} (hit : Er → Bool) (m : Option (Fl S L β (C ⊕ Sx))) (n : Nat) (cc : Sx → C) : Option (Fl S L β C) := m.bind fun r => match r with
  | .nx s => some (.nx s)
  | .bk l => some (.bk l)
  | .ct l => some (.ct l)
  | .ret b (.inl c) => some (.ret b c)
  | .err e (.inr x) => if hit e = true then some (.err ⟨n, 0⟩ (cc x)) else none
  | _ => none
end
end Sim
namespace Sim
open PySem L2
open Rp (rep)
open At1 (toV)
open Ow (own)
open RpA (repA stoA)
structure OO (c : Nat) (nm : List Str) (τ : Type) where
  o : Option (BI c nm τ)
def OOow (Γ : Gm) (G H : Hp) (v : V) (fp : List Addr) (c : Nat) (nm : List Str) (τ : Type) [Cnt τ] : Option (BI c nm τ) → Prop
  | none => v = .non ∧ fp = []
  | some s => BIow Γ G H v fp c nm (Cnt.slots s.t)
instance instOwOO {c : Nat} {nm : List Str} {τ : Type} [Cnt τ] : Ow (OO c nm τ) where
  own := fun Γ G H v fp b => OOow Γ G H v fp c nm τ b.o
  stay := fun {Γ G G' H H' v fp b} h e k => by
    obtain ⟨o⟩ := b
    cases o with
    | none => exact h
    | some s => exact BIow.stay h e k
  there := fun {Γ G H v fp b} h x hx => by
    obtain ⟨o⟩ := b
    cases o with
    | none => rw [h.2] at hx; cases hx
    | some s => exact (BIow.there h x hx).1
  nt := fun {Γ G H v fp b} h x hx => by
    obtain ⟨o⟩ := b
    cases o with
    | none => rw [h.2] at hx; cases hx
    | some s => exact (BIow.there h x hx).2
  F := Unit
  iF := inferInstance
  toF := fun _ => ()
  canF := false
  fz := fun h => by cases h
section
variable {X : Cx} {Γ : Gm} {B : Bs} {L β C : Type} [Rp β] {F : Kt L β C} {ρ ρ' : Sto} {N : List Str} {sc : Scope} {k j : Nat} {fx : List Nat} {W : WX} {M : List Addr} {pos pos' p p' p2 p3 p4 : Pos} {e a b o tg it elt kx : Expr} {st : Stmt} {sts suite : List Stmt} {b₀ : Stmt} {es : List Expr} {S Sx : Type} {sto : S → Sto} {x : Str}
variable {c : Nat} {nm : List Str} {τ : Type} [Cnt τ]
end
structure CalGOC (Γ : Gm) (x : Str) (k : Nat) {τ ζ δ : Type} [I : Ow δ] (sin : τ → Sto) (sout : ζ → Sto) (f : τ → Option (Except Er δ × ζ)) : Prop where
  ex : ∃ a fd ps, FnOk Γ.P Γ.w Γ.K Γ.mg Γ.base (L2.CX Γ.P Γ.w) k a fd ps (specGO Γ sin sout f) ∧ Γ.mg x = some (.ref a) ∧ PySem.W.keepIn Γ.K (.ref a) = true ∧ Binds Γ.K fd ps []
section
variable {Γ : Gm} {x qual : Str} {st : Stmt} {N ps : List Str} {k : Nat} {τ ζ S δ : Type} [I : Ow δ] {sin : τ → Sto} {sout : ζ → Sto} {sto : S → Sto}
end
section
variable {X : Cx} {Γ : Gm} {B : Bs} {L β C : Type} [Rp β] {F : Kt L β C} {ρ ρ' : Sto} {N : List Str} {sc : Scope} {k j : Nat} {fx : List Nat} {W : WX} {M : List Addr} {pos p p' p1 p2 apos : Pos} {e a b o : Expr} {st : Stmt} {es : List Expr} {x f : Str}
variable {ε τ τ' ζ : Type} [RpA τ] [J : Ow ε] {sin : τ' → Sto} {sout : ζ → Sto} {g : τ' → Option (Except Er ε × ζ)} {E : L2.St → XK}
end
def exRetGe {δ δ' T L C : Type} (wr : δ → δ') (cr ce : C) : Except Er δ → Fl T L (OwR δ') C
  | .ok b => .ret ⟨wr b⟩ cr
  | .error e => .err e ce
section
variable {X : Cx} {Γ : Gm} {B : Bs} {L C δ δ' : Type} [I : Ow δ] [J : Ow δ'] {F : Kt L (OwR δ') C} {ρ ρ' : Sto} {N : List Str} {sc : Scope} {k j : Nat} {fx : List Nat} {W : WX} {M : List Addr} {pos p p' p1 p2 apos : Pos} {e a b o : Expr} {es : List Expr} {x : Str} {S S1 : Type} {sto : S → Sto} {sto1 : S1 → Sto}
end
end Sim
namespace Sim
open PySem L2
open Rp (rep)
open At1 (toV)
open Ow (own)
open RpA (repA stoA)
instance : Cst (Option Int) Dy := ⟨fun o => some (match o with | none => .u | some n => .i n), fun {Γ G v a b} h r => by
  cases a with
  | none => cases h; exact r
  | some n => cases h; exact rep1 r.2⟩
section
variable {X : Cx} {Γ : Gm} {B : Bs} {ρ : Sto} {N : List Str} {sc : Scope} {k : Nat} {pos p p2 : Pos} {a : Expr} {x : Str} {c : Nat} {nm : List Str} {τ : Type} [Cnt τ]
end
def mapKE {δ ζ : Type} (gz : ζ → δ) : Except Er Unit × Option ζ → Option (Except Er δ)
  | (.ok _, some z) => some (.ok (gz z))
  | (.error e, _) => some (.error e)
  | _ => none
section
variable {X : Cx} {Γ : Gm} {B : Bs} {ρ ρ' : Sto} {N : List Str} {sc : Scope} {k j : Nat} {pos p p' p1 p2 apos : Pos} {e a b o : Expr} {es : List Expr} {x : Str} {c : Nat}
variable {δ τ τ' ζ : Type} [RpA τ] [I : Ow δ] {sin : τ' → Sto} {sout : Option ζ → Sto} {g : τ' → Option (Except Er Unit × Option ζ)} {E : L2.St → XK}
end
end Sim
namespace Sim
open PySem L2
open Rp (rep)
open At1 (toV)
section
variable {X : Cx} {Γ : Gm} {B : Bs} {ρ : Sto} {pos p2 : Pos} {a hi : Expr} {S : Type} {sto : S → Sto}
end
end Sim
namespace Sim
open PySem L2
open Rp (rep)
open At1 (toV)
section
variable {X : Cx} {Γ : Gm} {B : Bs} {ρ : Sto} {N : List Str} {sc : Scope} {k : Nat} {fx : List Nat} {W : WX} {M : List Addr} {pos p : Pos} {elt it : Expr} {S : Type} {sto : S → Sto}
variable {α γ : Type} [Rp α] [Rp γ]
end
end Sim
set_option maxHeartbeats 4000000
namespace ExD
open PySem PySem.W PySem.Spec PySem.Calls PyProof.Rows
section
variable {prog : Program} {w : World} {A : Around} {E : Value → Shared → Prop} {s : Shared} {K : Frag} {x D : Addr} {ox : Obj} {od : Option Obj}
end
end ExD
namespace L2
open PySem PySem.Spec PyProof.Rows
def rIsD (K : PySem.W.Frag) (D a dd : Addr) : List V → Hp → VK → Prop := fun xs H Q => (∃ fs, H dd = some (.xd fs)) ∧ rIsE K D a xs H Q
end L2
set_option maxHeartbeats 1000000
namespace Sim
open PySem L2
open Rp (rep)
open At1 (toV)
open Ow (own)
open RpA (repA stoA)
structure ExA (Γ : Gm) (cs : List Nat) : Prop where
  cc : ∀ i, i ∈ cs → ExcC Γ.K (Γ.C i)
  kit : ∀ i j, i ∈ cs → j ∈ cs → PySem.W.kitOne Γ.K (.ref (Γ.C i)) (.ref (Γ.C j)) = some (He.subN i j)
  exm : ∀ i j, i ∈ cs → j ∈ cs → PySem.W.exmOne Γ.K (.ref (Γ.C i)) (.ref (Γ.C j)) = some (He.subN i j)
  ve : ∀ i, i ∈ cs → PySem.W.kitOne Γ.K (.ref (Γ.C i)) (.type "ValueError") = some true
  xf : XfC Γ.K (Γ.C 9)
  ln : PySem.W.findIn Γ.K (.ref (Γ.C 9)) "line" = some none
structure GlC (Γ : Gm) (x : Str) (j : Nat) : Prop where
  g : Γ.mg x = some (.ref (Γ.C j))
def LieE (Γ : Gm) (e : Er) (d : Option Addr) (H : Hp) : Prop := if e.cls = 9 then ∃ dd, d = some dd ∧ H dd = some (.xd [("line", .int e.line)]) else d = none
structure Hox (X : Cx) (Γ : Gm) (B : Bs) (N : List Str) (sc : Scope) (k : Nat) (a : Addr) (e : Er) : Prop where
  hP : X.prog = Γ.P
  hw : X.w = Γ.w
  hK : X.K = Γ.K
  hmg : X.mg = Γ.mg
  hbase : X.base = Γ.base
  hN : X.N = N
  nd : N.Nodup
  hsc : X.env.scope = sc
  room : L2H.RoomH k X.A
  ex : ∃ oe d, (a, oe) ∈ X.pn ∧ Zc (.ref (Γ.C e.cls)) d oe ∧ (∃ vs, oe.data = .fields vs) ∧ LieE Γ e d B.H
  bm : B.M = []
theorem Hox.gl {X : Cx} {Γ : Gm} {B : Bs} {N : List Str} {sc : Scope} {k : Nat} {a : Addr} {e : Er} (c : Hox X Γ B N sc k a e) {x : Str} (h : Glb sc x) : Gl X x := by
  show X.env.scope.names.lookup x = _
  rw [c.hsc]
  exact h
section
variable {X : Cx} {Γ : Gm} {B : Bs} {L β C : Type} [Rp β] {F : Kt L β C} {ρ ρ' : Sto} {N : List Str} {sc : Scope} {k j : Nat} {fx : List Nat} {W : WX} {M : List Addr} {pos pos' p p' p2 : Pos} {e a b o : Expr} {es : List Expr} {ad : Addr} {er : Er} {x : Str}
variable {α : Type} [Rp α]
theorem At.old {G H : Hp} {σ : L2.St} (A : At Γ B ρ G H σ) (hM : B.M = []) {y : Addr} {o : HO} (h : B.H y = some o) : H y = some o := A.keep y o (by rw [hM]; simp) h
def lineE (e : Er) : Option Int := if e.cls = 9 then some e.line else none
def specL (Γ : Gm) (cs : List Nat) {β : Type} [Rp β] (f : Er → Option β) : Addr × Obj → Sp := fun q vs H Q _ => ∃ G er b, Sub G H ∧ vs = [.ref q.1] ∧ er.cls ∈ cs ∧ (∃ d, Zc (.ref (Γ.C er.cls)) d q.2 ∧ LieE Γ er d H) ∧ (∃ ws, q.2.data = .fields ws) ∧ f er = some b ∧ ∀ v G' H', Grow G H G' H' → rep Γ G' v b → Q v H'
structure CalL (Γ : Gm) (x : Str) (k : Nat) (cs : List Nat) {β : Type} [Rp β] (f : Er → Option β) : Prop where
  ex : ∃ a fd ps, FnHX Γ.P Γ.w Γ.K Γ.mg Γ.base CX0 k a fd ps (specL Γ cs f) ∧ Γ.mg x = some (.ref a) ∧ PySem.W.keepIn Γ.K (.ref a) = true ∧ Binds Γ.K fd ps []
end
end Sim
namespace Sim
open PySem L2
open Rp (rep)
open At1 (toV)
open Ow (own)
def noOwn (ρ : Sto) : Bool := ρ.all fun s => match s with
  | .own _ _ _ => false
  | _ => true
theorem At.back {Γ : Gm} {B : Bs} {ρ ρ' : Sto} {G H G' H' : Hp} {σ σ' : L2.St} (A : At Γ B ρ G H σ) (A' : At Γ ⟨G, H, [], σ, B.fx⟩ ρ' G' H' σ') : At Γ B ρ' G' H' σ' := by
  have live : ∀ {a : Addr}, B.H a ≠ none → H' a ≠ none := fun {a} h => A'.live a (A.live a h)
  refine ⟨A'.sub, A.le.trans A'.le, fun a o hm h => A'.keep a o (by simp) (A.keep a o hm h), fun a h => live h, fun a hm hb hg => ?_, ?_, fun i hi => (A'.fix i hi).trans (A.fix i hi)⟩
  · cases q : B.H a with
    | none => exact absurd q hb
    | some o =>
      have h1 := A.keep a o hm q
      have t1 := A.thin a hm hb hg
      rw [q] at t1
      refine t1.trans fun g0 => ?_
      have := A'.thin a (by simp) (show H a ≠ none by rw [h1]; simp) g0
      show Th (some o) (G' a)
      rw [← h1]
      exact this
  · obtain ⟨φ, h1, h3⟩ := A'.slots
    refine ⟨φ, h1, fun i a ha => ⟨(h3 i a ha).1, .inl ?_⟩⟩
    rcases (h3 i a ha).2 with z | z
    · cases q : B.H a with
      | none => rfl
      | some o => exact absurd z (A.live a (by rw [q]; simp))
    · exact absurd z (by simp)
section
variable {X : Cx} {Γ : Gm} {B : Bs} {L β C : Type} [Rp β] {F : Kt L β C} {ρ ρ' : Sto} {N : List Str} {sc : Scope} {k : Nat} {fx : List Nat} {W : WX} {M : List Addr} {pos pos' p p' p2 : Pos} {e a b o tg it elt kx : Expr} {st : Stmt} {sts suite : List Stmt} {b₀ : Stmt} {es : List Expr} {S Sx : Type} {sto : S → Sto}
end
end Sim
namespace Sim
open PySem L2
open Rp (rep)
open At1 (toV)
open Ow (own)
open RpA (repA stoA)
def cOwE (Γ : Gm) (B : Bs) (E : L2.St → XK) (ρ : Sto) {δ : Type} (I : Ow δ) (m : Option (Except Er δ)) (up : δ → Sto) : TE := fun σ H Q => ∃ G r, At Γ B ρ G H σ ∧ m = some r ∧ match r with
  | .ok w => ∀ v G' H', Grow G H G' H' → Opn Γ B G' H' σ v I w up → Q v H'
  | .error e => ∀ cls d G' H', Grow G H G' H' → IsEr Γ e cls d H' → E σ cls d H'
abbrev XOwE (X : Cx) (Γ : Gm) (B : Bs) (E : L2.St → XK) (ρ : Sto) (e : Expr) {δ : Type} [I : Ow δ] (m : Option (Except Er δ)) (up : δ → Sto) : Prop := PE X e (cOwE Γ B E ρ I m up)
def mapOk {α β : Type} (f : α → β) : Except Er α → Except Er β
  | .ok x => .ok (f x)
  | .error e => .error e
def exPart {α β C : Type} (f : α → β) (c : C) : Except Er α → Except (Er × C) (β × Unit)
  | .ok x => .ok (f x, ())
  | .error e => .error (e, c)
section
variable {X : Cx} {Γ : Gm} {B : Bs} {L β C : Type} [Rp β] {F : Kt L β C} {ρ ρ' : Sto} {N : List Str} {sc : Scope} {k j : Nat} {fx : List Nat} {W : WX} {M : List Addr} {pos p p' p1 p2 apos : Pos} {e a b o : Expr} {st : Stmt} {es : List Expr} {x f : Str} {E : L2.St → XK}
variable {cn : Nat} {nm : List Str} {τb : Type} [Cnt τb]
end
end Sim
namespace L2
open PySem PySem.Spec PyProof.Rows
section
variable {X : Cx} {pos : Pos}
def tPar3s (i j l : Nat) (ta : TA) : TS := fun D σ H => ta σ H fun vs H1 => ∃ v w u, vs = [v, w, u] ∧ D.nx (((σ.set i (some v)).set j (some w)).set l (some u)) H1
end
end L2
namespace Sim
open PySem L2
open Rp (rep)
open At1 (toV)
open Ow (own)
open RpA (repA stoA)
section
variable {X : Cx} {Γ : Gm} {B : Bs} {L β C : Type} [Rp β] {F : Kt L β C} {ρ ρ' : Sto} {N : List Str} {sc : Scope} {k : Nat} {fx : List Nat} {W : WX} {M : List Addr} {pos p p' p1 p2 px py pz pt pt2 : Pos} {e a b c o i1 i2 : Expr} {st : Stmt} {es : List Expr} {x y z : Str} {kt k2 : Nat} {S : Type} {sto : S → Sto}
variable {α γ δ : Type} [Rp α] [Rp γ] [Rp δ]
end
end Sim
namespace Sim
open PySem L2
open Rp (rep)
open At1 (toV)
open Dat (toD)
abbrev TW3 : Type := T3 (List Tt) (List Tt) (List (Tt × Tt))
inductive UX where
  | ln (n : Int)
  | no
  | web (w : TW3)
  deriving DecidableEq
instance : Rp UX := ⟨fun Γ G v y => match y with
  | .ln n => v = .int n
  | .no => v = .non
  | .web w => rep Γ G v w, fun {_ _ _ _ y} e h => by
  cases y with
  | ln n => exact h
  | no => exact h
  | web w => exact Rp.mono e h⟩
instance : Cst Int UX := ⟨fun n => some (.ln n), fun h r => by cases h; exact rep1 r⟩
instance : Cst Unit UX := ⟨fun _ => some .no, fun h r => by cases h; exact rep1 r⟩
instance : Cst TW3 UX := ⟨fun w => some (.web w), fun h r => by cases h; exact r⟩
instance : Dat UX := ⟨fun y => match y with | .ln n => .int n | .no => .none | .web w => toD w, Dat.dep TW3, fun {Γ G v a} h => by
    cases a with
    | ln n => rw [show v = .int n from h]; exact .int _
    | no => rw [show v = .non from h]; exact .non
    | web w => exact Dat.reads (a := w) h, fun a => by
    cases a with
    | ln n => simp [PyData.canLay0]
    | no => simp [PyData.canLay0]
    | web w => exact Dat.lay w, fun a => by
    cases a with
    | ln n => simp [PyData.depth]
    | no => simp [PyData.depth]
    | web w => exact Dat.deep w, fun a b => by
    cases a with
    | ln n => cases b <;> simp [PyData.eqv, toD, Bool.beq_eq_decide_eq]
    | no => cases b <;> simp [PyData.eqv, toD]
    | web w =>
      cases b with
      | ln n => simp [PyData.eqv, toD]
      | no => simp [PyData.eqv, toD]
      | web u =>
        show PyData.eqv (toD w) (toD u) = _
        rw [Dat.eqv w u]
        exact decide_eq_decide.mpr ⟨fun h => by rw [h], fun h => by injection h⟩⟩
section
variable {X : Cx} {Γ : Gm} {B : Bs} {ρ : Sto} {N : List Str} {sc : Scope} {k : Nat} {fx : List Nat} {W : WX} {M : List Addr} {pos p p2 : Pos} {e ix : Expr} {x : Str} {α : Type} [Rp α]
end
end Sim
namespace Sim
open PySem L2
open Rp (rep)
open At1 (toV)
section
variable {X : Cx} {Γ : Gm} {B : Bs} {ρ : Sto} {N : List Str} {sc : Scope} {k : Nat} {pos p p2 : Pos} {e a : Expr} {ad : Addr} {er : Er} {α : Type} [Rp α]
end
end Sim
namespace Sim
open PySem L2
open Rp (rep)
section
variable {X : Cx} {Γ : Gm} {B : Bs} {ρ : Sto} {N : List Str} {sc : Scope} {k : Nat} {pos : Pos} {ad : Addr} {er : Er} {x : Str} {α : Type} [Rp α] {z : α}
end
end Sim
namespace Sim
open PySem L2
end Sim
set_option maxHeartbeats 2000000
namespace L2
open PySem PySem.Spec PyProof.Rows HotX L2H
section
variable {X : Cx} {elt tg l : Expr} {ifs : List Expr} {scope : Scope} {own : List (Str × Nat)} {pos : Pos} {tl te : TE} {g : TG} {tt : TT}
end
end L2
set_option maxHeartbeats 1000000
namespace Sim
open PySem L2
open Rp (rep)
open At1 (toV)
open Ow (own)
section
variable {X : Cx} {Γ : Gm} {B : Bs} {L β C : Type} [Rp β] {F : Kt L β C} {ρ ρ' : Sto} {N : List Str} {sc : Scope} {k : Nat} {fx : List Nat} {W : WX} {M : List Addr} {pos pos' p p' p2 : Pos} {e a b o tg it elt kx : Expr} {st : Stmt} {sts suite : List Stmt} {b₀ : Stmt} {es : List Expr} {S Sx : Type} {sto : S → Sto}
end
section
variable {X : Cx} {Γ : Gm} {B : Bs} {ρ : Sto} {N : List Str} {sc scope sc' : Scope} {k : Nat} {fx : List Nat} {pos px p1 p2 : Pos} {it : Expr} {ad : Addr} {er : Er} {x : Str}
end
end Sim
namespace Sim
open PySem L2
open Rp (rep)
open At1 (toV)
open Ow (own)
open RpA (repA stoA)
structure O3 where
  a : List Tt
  b : List Tt
  c : List (Tt × Tt)
  deriving DecidableEq
instance instOwO3 : Ow O3 where
  own := fun Γ G H v fp s => ∃ p a b c va vb vc, v = .ref p ∧ fp = [p, a, b, c] ∧ [p, a, b, c].Nodup ∧ H p = some (.lst [.ref a, .ref b, .ref c]) ∧ H a = some (.lst va) ∧ H b = some (.lst vb) ∧ H c = some (.lst vc) ∧ RpL Γ G va s.a ∧ RpL Γ G vb s.b ∧ RpL Γ G vc s.c
  stay := fun ⟨p, a, b, c, va, vb, vc, h1, h2, h3, h4, h5, h6, h7, r1, r2, r3⟩ e k => ⟨p, a, b, c, va, vb, vc, h1, h2, h3, k p (by rw [h2]; simp) _ h4, k a (by rw [h2]; simp) _ h5, k b (by rw [h2]; simp) _ h6, k c (by rw [h2]; simp) _ h7, r1.mono e, r2.mono e, r3.mono e⟩
  there := fun ⟨p, a, b, c, va, vb, vc, h1, h2, h3, h4, h5, h6, h7, r⟩ x hx => by
    rw [h2] at hx
    simp only [List.mem_cons, List.not_mem_nil, or_false] at hx
    rcases hx with z | z | z | z <;> rw [z]
    · exact some_ne h4
    · exact some_ne h5
    · exact some_ne h6
    · exact some_ne h7
  nt := fun ⟨p, a, b, c, va, vb, vc, h1, h2, h3, h4, h5, h6, h7, r⟩ x hx ws e => by
    rw [h2] at hx
    simp only [List.mem_cons, List.not_mem_nil, or_false] at hx
    rcases hx with z | z | z | z
    · rw [z, h4] at e; cases e
    · rw [z, h5] at e; cases e
    · rw [z, h6] at e; cases e
    · rw [z, h7] at e; cases e
  F := R3 (List Tt) (List Tt) (List (Tt × Tt))
  iF := instRpR3
  toF := fun z => R3.mk z.a z.b z.c
  canF := true
  fz := fun _ Γ G H v fp s ob ⟨p, a, b, c, va, vb, vc, h1, h2, h3, h4, h5, h6, h7, r1, r2, r3⟩ le => by
    have fr : ∀ {x : Addr} {vs : List V}, x ∈ fp → H x = some (.lst vs) → frzd G (lkd H fp ob) fp x = some (.lst vs) := fun {x vs} hx e => by
      unfold frzd
      rw [if_pos hx]
      exact lkd_nd e fun q => q
    exact ⟨p, .ref a, .ref b, .ref c, h1, fr (by rw [h2]; simp) h4, ⟨a, va, rfl, fr (by rw [h2]; simp) h5, r1.mono le⟩, ⟨b, vb, rfl, fr (by rw [h2]; simp) h6, r2.mono le⟩, ⟨c, vc, rfl, fr (by rw [h2]; simp) h7, r3.mono le⟩⟩
instance : Adr instOwO3 := ⟨fun ⟨p, a, b, c, va, vb, vc, h1, _⟩ => ⟨p, h1⟩⟩
section
variable {X : Cx} {Γ : Gm} {B : Bs} {ρ : Sto} {N : List Str} {sc : Scope} {k j : Nat} {fx : List Nat} {pos p p1 : Pos} {a : Expr} {x : Str} {ad : Addr} {er : Er} {α : Type} [Rp α]
end
end Sim
namespace Sim
open PySem L2
open Rp (rep)
open At1 (toV)
open Ow (own)
open RpA (repA stoA)
section
variable {Γ : Gm} {B : Bs} {G H : Hp} {σ : L2.St} {v : V} {z : O3} {up : O3 → Sto}
end
section
variable {X : Cx} {Γ : Gm} {B : Bs} {ρ : Sto} {N : List Str} {sc : Scope} {k j : Nat} {pos p p1 : Pos} {e : Expr} {z : O3} {up : O3 → Sto}
end
end Sim
namespace Sim
open PySem L2
open Rp (rep)
open At1 (toV)
open Ow (own)
open RpA (repA stoA)
section
variable {X : Cx} {Γ : Gm} {B : Bs} {ρ : Sto} {N : List Str} {sc : Scope} {k j : Nat} {fx : List Nat} {W : WX} {M : List Addr} {pos : Pos} {e a o : Expr} {α : Type} [Rp α]
end
end Sim
namespace Sim
open PySem L2
open Rp (rep)
open At1 (toV)
open Ow (own)
open RpA (repA stoA)
def O3.part (z : O3) (w : Bool) : List Tt := if w then z.b else z.a
def O3.setP (z : O3) (w : Bool) (l : List Tt) : O3 := if w then ⟨z.a, l, z.c⟩ else ⟨l, z.b, z.c⟩
structure O3p (r : Addr) where
  z : O3
  w : Bool
instance instOwO3p {r : Addr} : Ow (O3p r) where
  own := fun Γ G H v fp s => ∃ p a b c va vb vc, v = .ref p ∧ fp = [p, a, b, c] ∧ [p, a, b, c].Nodup ∧ H p = some (.lst [.ref a, .ref b, .ref c]) ∧ H a = some (.lst va) ∧ H b = some (.lst vb) ∧ H c = some (.lst vc) ∧ RpL Γ G va s.z.a ∧ RpL Γ G vb s.z.b ∧ RpL Γ G vc s.z.c ∧ r = if s.w then b else a
  stay := fun ⟨p, a, b, c, va, vb, vc, h1, h2, h3, h4, h5, h6, h7, r1, r2, r3, r4⟩ e k => ⟨p, a, b, c, va, vb, vc, h1, h2, h3, k p (by rw [h2]; simp) _ h4, k a (by rw [h2]; simp) _ h5, k b (by rw [h2]; simp) _ h6, k c (by rw [h2]; simp) _ h7, r1.mono e, r2.mono e, r3.mono e, r4⟩
  there := fun ⟨p, a, b, c, va, vb, vc, h1, h2, h3, h4, h5, h6, h7, r⟩ x hx => by
    rw [h2] at hx
    simp only [List.mem_cons, List.not_mem_nil, or_false] at hx
    rcases hx with z | z | z | z <;> rw [z]
    · exact some_ne h4
    · exact some_ne h5
    · exact some_ne h6
    · exact some_ne h7
  nt := fun ⟨p, a, b, c, va, vb, vc, h1, h2, h3, h4, h5, h6, h7, r⟩ x hx ws e => by
    rw [h2] at hx
    simp only [List.mem_cons, List.not_mem_nil, or_false] at hx
    rcases hx with z | z | z | z
    · rw [z, h4] at e; cases e
    · rw [z, h5] at e; cases e
    · rw [z, h6] at e; cases e
    · rw [z, h7] at e; cases e
  F := Unit
  iF := inferInstance
  toF := fun _ => ()
  canF := false
  fz := fun h => by cases h
section
variable {X : Cx} {Γ : Gm} {B : Bs} {ρ : Sto} {G H : Hp} {σ : L2.St} {i : Nat} {z : O3} {w : Bool} {r : Addr}
end
section
variable {X : Cx} {Γ : Gm} {B : Bs} {L β C : Type} [Rp β] {F : Kt L β C} {ρ : Sto} {N : List Str} {sc : Scope} {k : Nat} {fx : List Nat} {W : WX} {M : List Addr} {pos p p' p2 : Pos} {ix : Expr} {sts : List Stmt} {S : Type} {sto : S → Sto} {x y : Str} {z : O3} {w : Bool} {m : Option (Fl S L β C)}
end
end Sim
namespace Sim
open PySem L2
open Rp (rep)
open At1 (toV)
open Ow (own)
open RpA (repA stoA)
section
variable {Γ : Gm} {B : Bs} {G H : Hp} {σ : L2.St} {v : V} {z : O3} {r : Addr}
end
section
variable {X : Cx} {Γ : Gm} {B : Bs} {L β C : Type} [Rp β] {F : Kt L β C} {ρ : Sto} {N : List Str} {sc : Scope} {k j : Nat} {p p1 pos : Pos} {e : Expr} {sts : List Stmt} {S : Type} {sto : S → Sto} {x : Str} {z : O3} {w : Bool} {r : Addr} {m : Option (Fl S L β C)}
end
end Sim
namespace Sim
open PySem L2
open Rp (rep)
open At1 (toV)
open Ow (own)
section
variable {X : Cx} {Γ : Gm} {B : Bs} {ρ : Sto} {N : List Str} {sc : Scope} {k j : Nat} {pos p p1 : Pos} {x : Str}
end
end Sim
namespace Sim
open PySem L2
open Rp (rep)
open At1 (toV)
open Ow (own)
open RpA (repA stoA)
section
variable {X : Cx} {Γ : Gm} {B : Bs} {L C : Type} {F : Kt L (OwR O3) C} {ρ ρ' : Sto} {N : List Str} {sc : Scope} {k : Nat} {fx : List Nat} {W : WX} {M : List Addr} {pos p p' p1 p2 p3 : Pos} {e a b c o : Expr} {es : List Expr} {x y z : Str} {S : Type} {sto : S → Sto}
theorem xno_o3 {ma mb : Option (List Tt)} {mc : Option (List (Tt × Tt))} (ha : XN X Γ B ρ a ma) (hb : XN X Γ B ρ b mb) (hc : XN X Γ B ρ c mc) (s1 : starEach [a, b, c] X.env = (false, eval a X.env) :: starEach [b, c] X.env := by rfl) (s2 : starEach [b, c] X.env = (false, eval b X.env) :: starEach [c] X.env := by rfl) (s3 : starEach [c] X.env = (false, eval c X.env) :: starEach [] X.env := by rfl) :
    XNO X Γ B ρ (.List [a, b, c] pos) (ma.bind fun l => mb.bind fun n => mc.bind fun r => some (O3.mk l n r)) := imE (pe_lst (pa_cons ha (pa_cons hb (pa_cons hc pa_nil s3) s2) s1)) fun σ H Q ⟨G, z, A, e, q⟩ => by
  cases ma with
  | none => cases e
  | some l =>
    cases mb with
    | none => cases e
    | some n =>
      cases mc with
      | none => cases e
      | some r =>
        cases e
        refine ⟨G, l, A, rfl, fun pa va G1 H1 g1 hpa ra => ?_⟩
        have g2 : Grow G H G1 (upd H1 pa (.lst va)) := g1.trans (Grow.newO g1.sub hpa _)
        refine ⟨G1, n, A.grow g2, rfl, fun pb vb G2 H2 g3 hpb rb => ?_⟩
        have g4 : Grow G H G2 (upd H2 pb (.lst vb)) := (g2.trans g3).trans (Grow.newO (g2.trans g3).sub hpb _)
        refine ⟨G2, r, A.grow g4, rfl, fun pc vc G3 H3 g5 hpc rc => ⟨(by show 3 ≤ sizeLine; decide), fun p hp => ?_⟩⟩
        have g6 := g4.trans g5
        have back : ∀ {G' H' : Hp} {w : Addr}, Grow G H G' H' → H' w = none → H w = none := fun {G' H' w} g hw => by
          cases z : H w with
          | none => rfl
          | some u => rw [g.leH _ _ z] at hw; cases hw
        have ea1 : upd H1 pa (.lst va) pa = some (.lst va) := upd_same
        have ea2 : H2 pa = some (.lst va) := g3.leH _ _ ea1
        have nab : pb ≠ pa := fun z => by rw [z, ea2] at hpb; cases hpb
        have ea3 : upd H2 pb (.lst vb) pa = some (.lst va) := by rw [upd_ne (Ne.symm nab)]; exact ea2
        have eb3 : upd H2 pb (.lst vb) pb = some (.lst vb) := upd_same
        have ea4 : H3 pa = some (.lst va) := g5.leH _ _ ea3
        have eb4 : H3 pb = some (.lst vb) := g5.leH _ _ eb3
        have nac : pc ≠ pa := fun z => by rw [z, ea4] at hpc; cases hpc
        have nbc : pc ≠ pb := fun z => by rw [z, eb4] at hpc; cases hpc
        have g7 : Grow G H G3 (upd H3 pc (.lst vc)) := g6.trans (Grow.newO g6.sub hpc _)
        have hp3 : H3 p = none := by
          by_cases z : p = pc
          · rw [z]; exact hpc
          · rw [upd_ne z] at hp; exact hp
        have ec5 : upd H3 pc (.lst vc) pc = some (.lst vc) := upd_same
        have npc : p ≠ pc := fun z => by rw [z, ec5] at hp; cases hp
        have npa : p ≠ pa := fun z => by rw [z, ea4] at hp3; cases hp3
        have npb : p ≠ pb := fun z => by rw [z, eb4] at hp3; cases hp3
        have ea5 : upd H3 pc (.lst vc) pa = some (.lst va) := by rw [upd_ne (Ne.symm nac)]; exact ea4
        have eb5 : upd H3 pc (.lst vc) pb = some (.lst vb) := by rw [upd_ne (Ne.symm nbc)]; exact eb4
        have nG : ∀ {G1 H1 G2 H2 : Hp} {w : Addr} {vs : List V}, Grow G1 H1 G2 H2 → H1 w = some (.lst vs) → G1 w = none → G2 w = none := fun {G1 H1 G2 H2 w vs} g e h => (g.thin w (some_ne e) h).none fun us e2 => by rw [e] at e2; cases e2
        have ga2 : G2 pa = none := nG g3 ea1 (g1.sub.none hpa)
        have ga3 : G3 pa = none := nG g5 ea3 ga2
        have gb3 : G3 pb = none := nG g5 eb3 ((g2.trans g3).sub.none hpb)
        have gc3 : G3 pc = none := g6.sub.none hpc
        refine q (.ref p) [p, pa, pb, pc] G3 _ (g7.trans (Grow.newO g7.sub hp _)) ⟨p, pa, pb, pc, va, vb, vc, rfl, rfl, ?_, upd_same, by rw [upd_ne (Ne.symm npa)]; exact ea5, by rw [upd_ne (Ne.symm npb)]; exact eb5, by rw [upd_ne (Ne.symm npc)]; exact ec5, (ra.mono (g3.leG.trans g5.leG)), rb.mono g5.leG, rc⟩ fun w hw => ?_
        · simp only [List.nodup_cons, List.mem_cons, List.not_mem_nil, or_false, not_or, not_false_eq_true, List.nodup_nil, and_true]
          exact ⟨⟨npa, npb, npc⟩, ⟨Ne.symm nab, Ne.symm nac⟩, Ne.symm nbc⟩
        · simp only [List.mem_cons, List.not_mem_nil, or_false] at hw
          rcases hw with z | z | z | z <;> subst z
          · exact ⟨back g6 hp3, g6.sub.none hp3⟩
          · exact ⟨back g1 hpa, ga3⟩
          · exact ⟨back (g2.trans g3) hpb, gb3⟩
          · exact ⟨back g6 hpc, gc3⟩
end
section
variable {Γ : Gm} {B : Bs} {G H : Hp} {σ : L2.St} {v : V} {z : O3} {r : Addr} {w : Bool}
end
def partB (n : Int) : Option Bool := if n = 0 then some false else if n = 1 then some true else none
section
variable {X : Cx} {Γ : Gm} {B : Bs} {L β C : Type} [Rp β] {F : Kt L β C} {ρ : Sto} {N : List Str} {sc : Scope} {k j : Nat} {fx : List Nat} {W : WX} {M : List Addr} {pos p p' p1 p2 : Pos} {e ix : Expr} {sts : List Stmt} {S : Type} {sto : S → Sto} {x y : Str} {z : O3} {w : Bool} {r : Addr} {m : Bool → Option (Fl S L β C)}
end
end Sim
set_option maxHeartbeats 2000000
namespace Sim
open PySem PySem.Spec PyProof.Rows L2
open Rp (rep)
open At1 (toV)
open Ow (own)
open RpA (repA stoA)
def Law1 (P : Program) (w : World) (K : PySem.W.Frag) (mg : Str → Option Value) (base : Heap) (f : Addr) (fd : FuncData) (ps : List Str) (sp : Sp) : Prop :=
  ∀ (s : Shared) (H : Hp) (args : Args) (us : List Value) (vs : List V) (Q : VK), Env0 P w K mg base callerA [] s H → BindsTo s fd args (ps.zip us) → Vals vs us → sp vs H Q E0 → codeAny (model P w) callerA (.call (.ref f) args) (CR CX0 [] P w H s Q E0) s
section
variable {P : Program} {w : World} {K : PySem.W.Frag} {mg : Str → Option Value} {base : Heap} {x qual : Str} {st : Stmt} {f : Addr} {fd : FuncData} {N ps : List Str} {k : Nat} {sp : Sp}
theorem law1_of (F : Fun K x qual st f fd) (Sc : FnScope N ps (defScope st)) (hr : Room (k + 1) callerA) (hlen : ∀ vs H Q, sp vs H Q E0 → vs.length = ps.length)
    (hb : ∀ (cdv : Value) (s : Shared) (H : Hp) (vs : List V) (Q : VK), sp vs H Q E0 → (∀ env, Room k (callerA.deeper env)) →
      ∃ t, PSs (cxOf CX0 P w K mg base N qual (defScope st) f cdv callerA [] s H E0).nox (defBody st) t ∧ t { nx := fun _ H' => Q .non H', rt := Q } (start N vs) H) : Law1 P w K mg base f fd ps sp := by
  obtain ⟨oc, od, kV, doc, pm, an, cdv, ct, osl, hfd, inK, code⟩ := F.ex
  subst hfd
  intro s H args us vs Q env binds rv hsp
  obtain ⟨t, body, reads⟩ := hb cdv s H vs Q hsp fun e => hr.deeper e
  have up : ∀ b o, base.get? b = some o → s.heap.get? b = some o := fun b o e => (env.bs b o e).1
  have lim := env.mod.nolimit.keeps up
  have inH := env.mod.kin.keeps up
  have nvs := hlen vs H Q hsp
  refine codeAny_call_function hr.depth (inH _ _ inK) rfl Sc.co Sc.gen rfl (PySem.W.codeRec_of inH code) (binds _ _ _ _ (wpAny_newFunctionEnv_cells Sc.kind (fun z hz => ?_) fun e he s1 made => ?_))
  · have hz1 := (List.of_mem_zip (a := z.1) (b := z.2) hz).1
    cases Sc.par z.1 hz1 with
    | inl loc => exact .inl loc
    | inr cell => exact .inr ⟨cell, PySem.W.cellsFrom_some _ _ _ (.inl cell)⟩
  · cases he
    have I := inv_start (CX := CX0) (E := E0) Sc hr.hd env nvs rv made
    refine ⟨lim.keeps made.toInCall.keep, codeAny_func (wpAny_mono (body.nox.run [] s1 (start N vs) H _ I reads) (fun fl s' out => ?_) fun _ _ out => out)⟩
    have done : ∀ (v : V) (u : Value) (σ' : L2.St) (H' : Hp), Inv (cxOf CX0 P w K mg base N qual (defScope st) f cdv callerA [] s H E0) [] σ' H' s' → RelV v u → Q v H' → CE [] P w H s Q u s' :=
      fun v u σ' H' J rel q => ⟨v, H', J.os, J.bare, J.base, J.hok, rel, q⟩
    match fl, out with
    | .ret u, ⟨v, σ', H', J, rel, q⟩ => exact done v u σ' H' J rel q
    | .next, ⟨σ', H', J, q⟩ => exact done .non .none σ' H' J rfl q
    | .brk, ⟨_, _, _, no⟩ => exact no.elim
    | .cont, ⟨_, _, _, no⟩ => exact no.elim
end
end Sim
namespace Sim
open PySem PySem.Spec PyProof.Rows L2
def scriptH (K : PySem.W.Frag) (a : Addr) (o : Obj) (xs : List V) : Hp := fun b => if b = a ∧ K.lookup a = none then some (.frz o (.lst xs)) else none
theorem scriptH_is {K : PySem.W.Frag} {a b : Addr} {o : Obj} {xs : List V} {u : HO} (h : scriptH K a o xs b = some u) : b = a ∧ K.lookup a = none ∧ u = .frz o (.lst xs) := by
  unfold scriptH at h
  by_cases c : b = a ∧ K.lookup a = none
  · rw [if_pos c] at h
    exact ⟨c.1, c.2, (Option.some.inj h).symm⟩
  · rw [if_neg c] at h
    cases h
section
variable {P : Program} {w : World} {K : PySem.W.Frag} {mg mb : Str → Option Value} {fa a : Addr} {fd : FuncData} {x : Str} {sp : Sp} {t : Shared} {vs : List Value} {ns : List Int}
theorem law1_call (inH : K.In t.heap) (glob : t.heap.Ns mainGlobals mg) (blt : t.heap.Ns builtinsNs mb) (boot : ∀ y : Str, y ≠ "__name__" → mb y = bootBuiltins y) (lim : t.heap.NoLimit) (nogen : t.gens = #[])
    (obj : t.heap.get? a = some { cls := .type "list", data := .seq vs.toArray }) (whole : IntsAre vs ns) (short : ns.length ≤ sizeLine)
    (F : ∀ base : Heap, K.In base → base.Ns mainGlobals mg → Law1 P w K mg base fa fd [x] sp) (binds : ∀ (s : Shared) (u : Value), BindsTo s fd ⟨[u], []⟩ [(x, u)])
    (hsp : ∀ H : Hp, Only H → SqL K H a (ns.map V.int) → sp [.ref a] H (fun v _ => v = .bl true) E0) :
    codeAny (model P w) callerA (.call (.ref fa) ⟨[.ref a], []⟩) (fun r s' => r = .ok (.ret (.bool true)) ∧ OldK t.heap s'.heap ∧ s'.os = t.os ∧ AllBare s'.gens) t := by
  have vals := vals_ints whole
  generalize hob : ({ cls := .type "list", data := .seq vs.toArray } : Obj) = ob at obj
  obtain ⟨H, hH⟩ : ∃ H, H = scriptH K a ob (ns.map V.int) := ⟨_, rfl⟩
  have only : Only H := fun b => by
    cases q : H b with
    | none => exact .inl rfl
    | some u =>
      rw [hH] at q
      exact .inr ⟨_, _, by rw [(scriptH_is q).2.2]⟩
  have seen : ∀ b o, t.heap.get? b = some o → (∀ u, H b = some u → False) → (hidT t.heap H).get? b = some o := fun b o e n => hidT_get e (by
    cases q : H b with
    | none => rfl
    | some u => exact (n u q).elim)
  have dictFree : ∀ b m, t.heap.Ns b m → (hidT t.heap H).Ns b m := fun b m ⟨o, es, n, e, d, r⟩ => ⟨o, es, n, seen b o e (fun u q => by
    rw [hH] at q
    rw [(scriptH_is q).1, obj, ← hob] at e
    cases e
    cases d), d, r⟩
  have inB : K.In (hidT t.heap H) := fun b o e => seen b o (inH b o e) fun u q => by
    rw [hH] at q
    obtain ⟨e1, e2, _⟩ := scriptH_is q
    rw [e1, e2] at e
    cases e
  have held : HOk P w H t.heap := fun b u q => by
    rw [hH] at q
    obtain ⟨e1, _, e2⟩ := scriptH_is q
    rw [e1, e2]
    exact ⟨obj, by rw [List.length_map]; exact short, vs, _, vals, by rw [obj, ← hob]⟩
  have script : SqL K H a (ns.map V.int) := by
    cases q : K.lookup a with
    | none => exact .inl (.inr ⟨ob, by rw [hH]; exact if_pos ⟨rfl, q⟩⟩)
    | some o =>
      have e := inH a o q
      rw [obj] at e
      cases e
      exact .inr ⟨_, vs.toArray, _, q, by rw [← hob], by rw [← hob], by rw [← hob], by rw [List.size_toArray, whole.length]; exact short, by simpa using vals⟩
  obtain ⟨lm, hl1, hl2⟩ := lim
  have env : Env0 P w K mg (hidT t.heap H) callerA [] t H := ⟨rfl, ⟨inB, dictFree _ _ glob, ⟨mb, dictFree _ _ blt, boot⟩, ⟨lm, dictFree _ _ hl1, hl2⟩⟩, fun b o e => of_hidT e, Nat.le_of_eq (hidT_size _ _), trivial, (fun b hb => by cases hb), held, .of_eq nogen⟩
  refine codeAny_mono (F _ inB (dictFree _ _ glob) t H ⟨[.ref a], []⟩ [.ref a] [.ref a] _ env (binds t (.ref a)) (.cons rfl .nil) (hsp H only script)) fun r s' out => ?_
  match r, out with
  | .error e, no => exact False.elim no
  | .ok .next, no => exact False.elim no
  | .ok .brk, no => exact False.elim no
  | .ok .cont, no => exact False.elim no
  | .ok (.ret u), ⟨v, H', os, bare, un, ok', rel, q⟩ =>
    have q : v = V.bl true := q
    subst q
    have rel : u = Value.bool true := rel
    subst rel
    refine ⟨rfl, OldK.of_keep fun b o e => ?_, os, bare⟩
    cases z : H b with
    | none => exact un.keep b o e z (by intro m; cases m) (by intro m; cases m)
    | some u =>
      have z' := z
      rw [hH] at z'
      obtain ⟨e1, _, e2⟩ := scriptH_is z'
      subst e2
      have now := (ok' b _ (un.frzs b _ _ z)).1
      rw [e1, obj] at e
      cases e
      exact now
end
theorem walk_law1 {l : PySem.W.OpenLaw} {n : Nat} {q : Program} {loose : List Str} {XP : (Str → Option Value) → Heap → Prop} {YP : World → Heap → Prop} {d : DefRec} {x : Str} (most : l.most = some n) (short : n ≤ sizeLine) (nodef : d.params.defaults = [])
    (F : ∀ (w : World) (mg : Str → Option Value) (fa : Addr) (h : Heap), YP w h → h.Ns mainGlobals mg → mg d.name = some (.ref fa) → ∃ (K : PySem.W.Frag) (fd : FuncData) (sp : Sp), K.In h ∧ (∀ (s : Shared) (u : Value), BindsTo s fd ⟨[u], []⟩ [(x, u)]) ∧
      (∀ (H : Hp) (a : Addr) (ns : List Int), ns.length ≤ n → Only H → SqL K H a (ns.map V.int) → sp [.ref a] H (fun v _ => v = .bl true) E0) ∧ ∀ base : Heap, K.In base → base.Ns mainGlobals mg → Law1 l.prog w K mg base fa fd [x] sp) :
    PySem.W.WalkO q loose XP YP l.row.toRowW d [] (fun f vs => PySem.call f vs) :=
  Att.attach_call most nodef fun w _ t mg mb fa _ _ _ _ a vs ns G Y _ _ _ named obj whole few nogen => by
    obtain ⟨K, fd, sp, inH, binds, hsp, run⟩ := F w mg fa _ Y G.T.g named
    exact law1_call inH G.T.g G.T.b G.T.builtins G.T.nolimit nogen obj whole (Nat.le_trans few short) run binds fun H o s => hsp H a ns few o s
end Sim
namespace Sim
open PySem PySem.Spec PyProof.Rows L2
open Rp (rep)
open At1 (toV)
open Ow (own)
open RpA (repA stoA)
theorem fnok1_of {Γ : Gm} {x : Str} {st : Stmt} {N ps : List Str} {k : Nat} {τ β : Type} [RpA τ] [Rp β] {fr : Bool} {S : Type} {sto : S → Sto} {a : Addr} {fd : FuncData} (F : Fun Γ.K x x st a fd) (Sc : FnScope N ps (defScope st)) {m : τ → Option (Fl S Empty β Unit)} (fin : S → β) (hfin : ∀ s (G : Hp), rep Γ G .non (fin s)) (hps : RpA.num τ = ps.length) (room : Room (k + 1) callerA)
    (hb : ∀ (X : Cx) (B : Bs) (t : τ), Dok X Γ B N (defScope st) k [] (fun _ _ _ _ => False) [] → X.A.guards = some [] → XB X Γ B (ktP β fr N.length) (stoA t ++ deads (N.length - RpA.num τ)) (defBody st) (m t) sto) (fm : τ → Option β) (hm : ∀ t, fm t = (m t).bind (retP fin)) : Law1 Γ.P Γ.w Γ.K Γ.mg Γ.base a fd ps (specP Γ fr fm) := by
  refine law1_of F Sc room (fun vs H Q h => ?_) (fun cdv s H vs Q h hr => ?_)
  · obtain ⟨G, t, b, h1, h2, _⟩ := h
    rw [(RpA.okA (H := H) h2).1, hps]
  · obtain ⟨G, t, b, h1, h2, h3, q⟩ := h
    have hN : RpA.num τ ≤ N.length := by
      rw [hps]
      have z := congrArg List.length Sc.pre
      rw [List.length_take] at z
      omega
    have A0 := at_start (fx := []) h1 h2 hN
    refine ⟨_, hb _ ⟨G, H, [], L2.start N vs, []⟩ t ⟨⟨rfl, rfl, rfl, rfl, rfl, rfl, Sc.nd, rfl, rfl, hr _⟩, PassesOwn.never, fun _ => rfl, L2N.takes0, rfl, rfl, rfl, rfl⟩ rfl, ?_⟩
    rw [hm] at h3
    cases e : m t with
    | none => rw [e] at h3; cases h3
    | some r =>
      rw [e] at h3
      refine ⟨G, r, A0, by first | exact e | rfl, ?_⟩
      cases r with
      | nx s1 =>
        have h3 := Option.some.inj (show some (fin s1) = some b from h3)
        subst h3
        intro G' H' σ' A'
        exact q .non G' H' A'.grown (hfin s1 G') fun _ p z => by cases z
      | bk l => exact l.elim
      | ct l => exact l.elim
      | ret b' c =>
        have h3 := Option.some.inj (show some b' = some b from h3)
        subst h3
        intro v G' H' σ' A' r f _
        exact q v G' H' A'.grown r f
      | err e' c => cases h3
structure Sx where
  s : Str
instance : DecidableEq Sx := fun a b => if h : a.s = b.s then isTrue (by cases a; cases b; cases h; rfl) else isFalse fun e => h (by rw [e])
instance : At1 Sx := ⟨fun t => .str t.s, fun _ => rfl⟩
theorem decSx (p q : Sx) : decide (V.str p.s = V.str q.s) = decide (p = q) := decide_eq_decide.mpr ⟨fun h => by cases p; cases q; cases V.str.inj h; rfl, fun h => by rw [h]⟩
theorem o_neX {Γ : Gm} : Op2 Γ rNe fun (i j : Sx) => some (!decide (i = j)) := op2_pure fun p q z H Q e k => ⟨rfl, by cases e; show Q (V.bl (!decide (V.str p.s = V.str q.s))) H; rw [decSx]; exact k⟩
def datT (t : Tt) : PyData := .str t.s
def datP (p : Tt × Tt) : PyData := .tuple [.str p.1.s, .str p.2.s]
def dat3 (z : O3) : PyData := .list [.list (z.a.map datT), .list (z.b.map datT), .list (z.c.map datP)]
@[irreducible] def repr3 (z : O3) : Option Sx := if (dat3 z).shown.length ≤ sizeLine then some ⟨(dat3 z).shown⟩ else none
theorem showAll : ∀ {xs : List PyData}, (∀ x ∈ xs, x.showable = true) → PyData.showableAll xs = true
  | [], _ => by simp only [PyData.showableAll]
  | x :: r, h => by simp only [PyData.showableAll, h x (List.mem_cons_self ..), showAll fun y hy => h y (List.mem_cons_of_mem _ hy), Bool.and_self]
theorem dictAll : ∀ {xs : List PyData}, (∀ x ∈ xs, x.hasDict = false) → PyData.hasDictAll xs = false
  | [], _ => by simp only [PyData.hasDictAll]
  | x :: r, h => by simp only [PyData.hasDictAll, h x (List.mem_cons_self ..), dictAll fun y hy => h y (List.mem_cons_of_mem _ hy), Bool.or_self]
theorem deepAll {n : Nat} : ∀ {xs : List PyData}, (∀ x ∈ xs, x.depth ≤ n) → PyData.depthAll xs ≤ n
  | [], _ => by simp only [PyData.depthAll]; exact Nat.zero_le _
  | x :: r, h => by
    simp only [PyData.depthAll]
    exact Nat.max_le.mpr ⟨h x (List.mem_cons_self ..), deepAll fun y hy => h y (List.mem_cons_of_mem _ hy)⟩
theorem mem_map_all {α : Type} {f : α → PyData} {p : PyData → Prop} {xs : List α} (h : ∀ a, p (f a)) : ∀ x ∈ xs.map f, p x := fun x hx => by
  obtain ⟨a, _, e⟩ := List.mem_map.mp hx
  rw [← e]; exact h a
theorem three_all {p : PyData → Prop} {a b c : PyData} (ha : p a) (hb : p b) (hc : p c) : ∀ x ∈ [a, b, c], p x := fun x hx => by
  simp only [List.mem_cons, List.not_mem_nil, or_false] at hx
  rcases hx with e | e | e <;> rw [e] <;> assumption
theorem show3 (z : O3) : (dat3 z).showable = true := by
  have l : ∀ {xs : List PyData}, (∀ x ∈ xs, x.showable = true) → (PyData.list xs).showable = true := fun h => by simp only [PyData.showable]; exact showAll h
  exact l (three_all (l (mem_map_all fun t => by simp only [datT, PyData.showable])) (l (mem_map_all fun t => by simp only [datT, PyData.showable])) (l (mem_map_all fun t => by simp only [datP, PyData.showable, PyData.showableAll, Bool.and_self])))
theorem dict3 (z : O3) : (dat3 z).hasDict = false := by
  have l : ∀ {xs : List PyData}, (∀ x ∈ xs, x.hasDict = false) → (PyData.list xs).hasDict = false := fun h => by simp only [PyData.hasDict]; exact dictAll h
  exact l (three_all (l (mem_map_all fun t => by simp only [datT, PyData.hasDict])) (l (mem_map_all fun t => by simp only [datT, PyData.hasDict])) (l (mem_map_all fun t => by simp only [datP, PyData.hasDict, PyData.hasDictAll, Bool.or_self])))
theorem deep3 (z : O3) : (dat3 z).depth ≤ 4 := by
  have l : ∀ {n : Nat} {xs : List PyData}, (∀ x ∈ xs, x.depth ≤ n) → (PyData.list xs).depth ≤ n + 1 := fun h => by simp only [PyData.depth]; exact Nat.succ_le_succ (deepAll h)
  exact l (three_all (l (mem_map_all fun t => by simp only [datT, PyData.depth]; omega)) (l (mem_map_all fun t => by simp only [datT, PyData.depth]; omega)) (l (mem_map_all fun t => by simp only [datP, PyData.depth, PyData.depthAll]; omega)))
def RdAs (h : Heap) (v : V) (d : PyData) : Prop := ∀ u, RelV v u → ∃ as, Reads h u d as
theorem reads_all {h : Heap} : ∀ {vs : List V} {its : List Value} {ds : List PyData}, Vals vs its → Paired (RdAs h) vs ds → ∃ as, ReadsAll h its ds as
  | _, _, _, .nil, .nil => ⟨_, .nil⟩
  | _, _, _, .cons r t, .cons d e => by
    obtain ⟨as, h1⟩ := d _ r
    obtain ⟨bs, h2⟩ := reads_all t e
    exact ⟨_, .cons h1 h2⟩
theorem rd_str {h : Heap} {s : Str} : RdAs h (.str s) (.str s) := fun u ⟨t, e⟩ => by
  subst e
  exact ⟨_, .str _ _⟩
theorem rd_lst {P : Program} {w : World} {H : Hp} {h : Heap} {a : Addr} {vs : List V} {ds : List PyData} (ok : HOk P w H h) (e : H a = some (.lst vs)) (q : Paired (RdAs h) vs ds) : RdAs h (.ref a) (.list ds) := fun u hu => by
  have hu : u = .ref a := hu
  subst hu
  obtain ⟨_, its, n, r, g⟩ := ok a _ e
  obtain ⟨as, ra⟩ := reads_all r q
  exact ⟨_, .list g rfl rfl (by simpa using ra)⟩
theorem rd_tup {P : Program} {w : World} {H : Hp} {h : Heap} {a : Addr} {vs : List V} {ds : List PyData} (ok : HOk P w H h) (e : H a = some (.tup vs)) (q : Paired (RdAs h) vs ds) : RdAs h (.ref a) (.tuple ds) := fun u hu => by
  have hu : u = .ref a := hu
  subst hu
  obtain ⟨_, its, r, o, g, c, n, d⟩ := ok a _ e
  obtain ⟨as, ra⟩ := reads_all r q
  exact ⟨_, .tuple g c d (by simpa using ra)⟩
theorem rd_texts {h : Heap} : ∀ {vs : List V} {xs : List Tt}, vs = xs.map toV → Paired (RdAs h) vs (xs.map datT)
  | _, [], e => by subst e; exact .nil
  | _, x :: r, e => by subst e; exact .cons rd_str (rd_texts rfl)
theorem rd_rows {P : Program} {w : World} {Γ : Gm} {G H : Hp} {h : Heap} (ok : HOk P w H h) (s : Sub G H) : ∀ {vs : List V} {xs : List (Tt × Tt)}, RpL Γ G vs xs → Paired (RdAs h) vs (xs.map datP)
  | _, _, .nil => .nil
  | _, _, .cons ⟨a, x, y, h1, h2, h3, h4⟩ t => by
    subst h1
    rw [rep1 h3, rep1 h4] at h2
    exact .cons (rd_tup ok (s.tup h2) (.cons rd_str (.cons rd_str .nil))) (rd_rows ok s t)
def R3at (Γ : Gm) (H : Hp) (p : Addr) (z : O3) : Prop := ∃ G a b c va vb vc, Sub G H ∧ H p = some (.lst [.ref a, .ref b, .ref c]) ∧ H a = some (.lst va) ∧ H b = some (.lst vb) ∧ H c = some (.lst vc) ∧ RpL Γ G va z.a ∧ RpL Γ G vb z.b ∧ RpL Γ G vc z.c
theorem rd_o3 {P : Program} {w : World} {Γ : Gm} {H : Hp} {h : Heap} {p : Addr} {z : O3} (ok : HOk P w H h) (r : R3at Γ H p z) : ∃ as, Reads h (.ref p) (dat3 z) as := by
  obtain ⟨G, a, b, c, va, vb, vc, s, hp, ha, hb, hc, ra, rb, rc⟩ := r
  exact rd_lst ok hp (.cons (rd_lst ok ha (rd_texts ra.toV)) (.cons (rd_lst ok hb (rd_texts rb.toV)) (.cons (rd_lst ok hc (rd_rows ok s rc)) .nil))) _ rfl
theorem call_repr3 {X : Cx} {Γ : Gm} (hg : X.A.guards = some []) (hu : X.A.units + 6 < cLine) : CallR X (.builtin "repr") (fun xs H Q => ∃ p z, xs = [.ref p] ∧ R3at Γ H p z ∧ (dat3 z).shown.length ≤ sizeLine ∧ Q (.str (dat3 z).shown) H) := by
  intro pins s σ H xs us Q I r h
  obtain ⟨p, z, rfl, hz, hl, q⟩ := h
  obtain ⟨u, rfl, hu'⟩ := vals1 r
  have hu' : u = .ref p := hu'
  subst hu'
  obtain ⟨as, rd⟩ := rd_o3 I.hok hz
  exact repr_of_reads' rd (show3 z) (PyData.noDict_hsm (dict3 z)) hg (by have := deep3 z; omega) (fun _ _ e => e) (fun h' u tk k => ⟨.str _, H, I.kept (t' := tk) k, ⟨u, rfl⟩, q⟩) hl
section
variable {X : Cx} {Γ : Gm} {B : Bs} {ρ : Sto} {N : List Str} {sc : Scope} {k : Nat} {pos p p1 : Pos} {x : Str}
theorem xe_repr3 (c : Cok X Γ N sc k) (hgd : X.A.guards = some []) (i : Nat) {z : O3} (hi : ρ[i]? = some (ow z)) (hN : N[i]? = some x) (hv : Vis sc x) (hg : Glb sc "repr") (hm : Γ.mg "repr" = none) (hd : (x == ("__debug__" : Str)) = false := by decide) (hcd : (x == ("__classdict__" : Str)) = false := by decide)
    (s1 : starEach [.Name x p1] X.env = (false, eval (.Name x p1) X.env) :: starEach [] X.env := by rfl) : XE X Γ B ρ (.Call (.Name "repr" p) [.Name x p1] [] pos) (repr3 z) :=
  imE (pe_callB (call_repr3 (Γ := Γ) hgd (by have := c.room.un; omega)) (c.gl hg) (by rw [c.hmg]; exact hm) PyProof.Rows.boot_repr (pa_cons (pv_ c hN hv hd hcd) pa_nil s1) (he := s1)) fun σ H Q ⟨G, y, A, e, q⟩ => by
  unfold repr3 at e
  obtain ⟨hl, e⟩ := ite_some e
  subst e
  obtain ⟨v, fp, h1, ⟨pp, a, b, cc, va, vb, vc, rfl, h2, h3, h4, h5, h6, h7, r1, r2, r3⟩, _⟩ := A.getO hi
  exact ⟨.ref pp, h1, pp, z, rfl, ⟨G, a, b, cc, va, vb, vc, A.sub, h4, h5, h6, h7, r1, r2, r3⟩, hl, q _ G H (.refl A.sub) rfl⟩
end
end Sim
namespace Sim
open PySem L2
open Rp (rep)
open At1 (toV)
open Ow (own)
open RpA (repA stoA)
structure OLc (α : Type) (vs : List V) where
  l : List α
instance instOwOLc {α : Type} [Rp α] {vs : List V} : Ow (OLc α vs) where
  own := fun Γ G H v fp xs => ∃ a, v = .ref a ∧ fp = [a] ∧ H a = some (.lst vs) ∧ RpL Γ G vs xs.l
  stay := fun ⟨a, h1, h2, h3, h4⟩ e k => ⟨a, h1, h2, k a (by rw [h2]; exact List.mem_cons_self) _ h3, h4.mono e⟩
  there := fun ⟨a, h1, h2, h3, h4⟩ x hx => by
    rw [h2] at hx
    rw [List.mem_singleton.mp hx]
    exact some_ne h3
  nt := fun ⟨a, h1, h2, h3, h4⟩ x hx ws e => by
    rw [h2] at hx
    rw [List.mem_singleton.mp hx, h3] at e
    cases e
  F := Unit
  iF := inferInstance
  toF := fun _ => ()
  canF := false
  fz := fun h => by cases h
section
variable {X : Cx} {Γ : Gm} {B : Bs} {L β C : Type} [Rp β] {F : Kt L β C} {ρ ρ' : Sto} {N : List Str} {sc : Scope} {k : Nat} {fx : List Nat} {W : WX} {M : List Addr} {pos p : Pos} {tg : Expr} {body sts : List Stmt} {S : Type} {sto : S → Sto} {α : Type} [Rp α]
theorem xb_forC {vs : List V} (d : Dok X Γ B N sc k fx W M) {x : Str} (i : Nat) {xs : List α} {ρt : S → α → Sto} {f : S → α → Option (Fl S S β C)} (s0 : S) (hi : ∀ s, (sto s)[i]? = some (ow (OLc.mk (vs := vs) xs))) (hN : N[i]? = some x) (hv : Vis sc x)
    (hg : ∀ B', Dok X Γ B' N sc k (i :: fx) W M → XG X Γ B' tg sto ρt) (hb : ∀ B', Dok X Γ B' N sc k (i :: fx) W M → ∀ s a, XB X Γ B' (F.loop S sto) (ρt s a) body (f s a) sto)
    (hd : (x == ("__debug__" : Str)) = false := by decide) (hcd : (x == ("__classdict__" : Str)) = false := by decide) (hs : ∀ y, foldedSetIterable (.Name x p) X.env y = pure y := by intro _; rfl) : XB1 X Γ B F (sto s0) (.For tg (.Name x p) body [] pos) (forF f s0 xs) sto := by
  have up : ∀ q : Hp × St, Dok X Γ (B.upO q.1 q.2 i) N sc k (i :: fx) W M := fun q => ⟨d.toCok, d.own, d.hfn, d.tk, by show i :: B.fx = i :: fx; rw [d.hfx], d.hM, d.stk, d.frm⟩
  refine imS (ps_for (g := fun v σ H Q => ∃ q : Hp × St, cG Γ (B.upO q.1 q.2 i) sto ρt v σ H Q) (tb := fun D σ H => ∃ p : (Hp × St) × S × α, cS Γ (B.upO p.1.1 p.1.2 i) (F.loop S sto) (ρt p.2.1 p.2.2) (f p.2.1 p.2.2) sto D σ H) d.own d.calm (pi_list (pv_ d.toCok hN hv hd hcd))
    ⟨fun pins s σ H v u Q I r ⟨G, q⟩ => (hg _ (up G)).run pins s σ H v u Q I r q⟩ (allB fun p => hb _ (up p.1) p.2.1 p.2.2) hs) fun D σ H ⟨G, r, A, e, q⟩ => ?_
  obtain ⟨v0, fp, h1, ⟨l, rfl, h3, h4, h5⟩, h6⟩ := A.getO (hi s0)
  have content : ∀ {s : S} {G1 H1 : Hp} {σ1 : St}, At Γ B (sto s) G1 H1 σ1 → σ1[i]? = σ[i]? → H1 l = some (.lst vs) := fun {s G1 H1 σ1} A1 hσ => by
    obtain ⟨v1, fp1, k1, ⟨l1, rfl, k3, k4, k5⟩, k6⟩ := A1.getO (hi s)
    rw [hσ, h1] at k1
    cases k1
    exact k4
  refine ⟨.ref l, h1, l, rfl, ⟨vs, SqL.of h4⟩, ?_⟩
  have hw : Walk (Itl X.K l) xs.length (fun H => SqL X.K H l vs) (YAt vs) := by
    rw [← h5.length]
    exact walk_list
  refine for_it (g := fun v σ H Q => ∃ q : Hp × St, cG Γ (B.upO q.1 q.2 i) sto ρt v σ H Q) (tb := fun D σ H => ∃ p : (Hp × St) × S × α, cS Γ (B.upO p.1.1 p.1.2 i) (F.loop S sto) (ρt p.2.1 p.2.2) (f p.2.1 p.2.2) sto D σ H) (D := D) hw
    (fun j σ1 H1 => ∃ s G1, At Γ B (sto s) G1 H1 σ1 ∧ Le G G1 ∧ σ1[i]? = σ[i]? ∧ (forF f s (xs.drop j) : Option (Fl S L β C)) = some r) ⟨s0, G, A, .refl _, rfl, e⟩ (fun j σ1 H1 _ ⟨s, G1, A1, _, hσ, _⟩ => SqL.of (content A1 hσ)) ?_ ?_
  · rintro j v σ1 H1 H2 hj ⟨s, G1, A1, l1, hσ, e1⟩ ⟨y1, y2⟩
    subst y1
    obtain ⟨a, hx, r2⟩ := h5.getV y2
    refine ⟨(G, σ), s, a, G1, A.upO A1 l1 hσ, Rp.mono l1 r2, fun G3 H3 σ3 l3 A3 => ?_⟩
    have ed : xs.drop j = a :: xs.drop (j + 1) := by
      obtain ⟨h1, h2⟩ := List.getElem?_eq_some_iff.mp hx
      rw [List.drop_eq_getElem_cons h1, h2]
    rw [ed] at e1
    refine ⟨⟨(G, σ), s, a⟩, ?_⟩
    have e1 : ((f s a).bind (flNext fun s' => forF f s' (xs.drop (j + 1)))) = some r := e1
    cases hf : f s a with
    | none => rw [hf] at e1; cases e1
    | some o =>
      rw [hf] at e1
      refine ⟨G3, o, A3, by first | exact hf | rfl, ?_⟩
      cases o with
      | nx s' => exact fun G4 H4 σ4 A4 => ⟨s', G4, (A.downO A4).1, A4.le, (A.downO A4).2, e1⟩
      | ct s' => exact fun G4 H4 σ4 A4 => ⟨s', G4, (A.downO A4).1, A4.le, (A.downO A4).2, e1⟩
      | bk s' =>
        have e1 := Option.some.inj e1
        subst e1
        exact fun G4 H4 σ4 A4 => q G4 H4 σ4 (A.downO A4).1
      | ret b c =>
        have e1 := Option.some.inj e1
        subst e1
        exact fun v G4 H4 σ4 A4 => q v G4 H4 σ4 (A.downO A4).1
      | err e c =>
        have e1 := Option.some.inj e1
        subst e1
        exact fun cls d G4 H4 σ4 A4 => q cls d G4 H4 σ4 (A.downO A4).1
  · rintro σ1 H1 ⟨s, G1, A1, l1, hσ, e1⟩
    rw [List.drop_length] at e1
    have e1 := Option.some.inj e1
    subst e1
    exact q G1 H1 σ1 A1
theorem xb_pinC {i : Nat} {xs : List α} {m : Option (Fl S L β C)} (hi : ρ[i]? = some (ow (OL.mk xs))) (h : ∀ vs : List V, XB X Γ B F (ρ.set i (ow (OLc.mk (vs := vs) xs))) sts m sto) : XB X Γ B F ρ sts m sto := by
  refine imB (allB h) fun D σ H ⟨G, s, A, e, q⟩ => ?_
  obtain ⟨v, fp, h1, ⟨l, vs, rfl, rfl, h4, h5⟩, h2, h3⟩ := A.openF hi
  exact ⟨vs, G, s, h3 _ instOwOLc (OLc.mk (vs := vs) xs) G H [l] (GrowF.of _ (.refl A.sub)) (fun y hy => ⟨h2 y hy, .inl hy⟩) ⟨l, rfl, rfl, h4, h5⟩, e, q⟩
theorem xb_unC {i : Nat} {vs : List V} {xs : List α} {m : Option (Fl S L β C)} (hi : ρ[i]? = some (ow (OLc.mk (vs := vs) xs))) (h : XB X Γ B F (ρ.set i (ow (OL.mk xs))) sts m sto) : XB X Γ B F ρ sts m sto := by
  refine imB h fun D σ H ⟨G, s, A, e, q⟩ => ?_
  obtain ⟨v, fp, h1, ⟨l, rfl, rfl, h4, h5⟩, h2, h3⟩ := A.openF hi
  exact ⟨G, s, h3 _ instOwOL (OL.mk xs) G H [l] (GrowF.of _ (.refl A.sub)) (fun y hy => ⟨h2 y hy, .inl hy⟩) ⟨l, vs, rfl, rfl, h4, h5⟩, e, q⟩
end
end Sim
namespace Sim
open PySem PySem.Spec PyProof.Rows L2
open Rp (rep)
open At1 (toV)
open Ow (own)
open RpA (repA stoA)
abbrev TCL : Type := List Tt × List Tt × List (Tt × Tt) × Unit
structure Lent (Γ : Gm) (G H : Hp) (a b c : Addr) (t : TCL) : Prop where
  nd : [a, b, c].Nodup
  ga : G a = none
  gb : G b = none
  gc : G c = none
  ha : ∃ vs, H a = some (.lst vs) ∧ RpL Γ G vs t.1
  hb : ∃ vs, H b = some (.lst vs) ∧ RpL Γ G vs t.2.1
  hc : ∃ vs, H c = some (.lst vs) ∧ RpL Γ G vs t.2.2.1
def specCL (Γ : Gm) (f : TCL → Option (Except Er WebD)) : Sp := fun vs H Q _ => ∃ G H0 x dx a b c t w, Sub G H0 ∧ H0 x = none ∧ H0 dx = none ∧ dx ≠ x ∧ H = upd (upd H0 dx (.own x)) x (.ins (Γ.C 20) dx []) ∧ vs = [.ref x, .ref a, .ref b, .ref c] ∧ Lent Γ G H0 a b c t ∧ f t = some (.ok w) ∧
  ∀ G' H', GrowF [a, b, c] G H0 G' H' → Lent Γ G' H' a b c t → rep Γ G' (.ref x) w → Q .non H'
structure CalCL (Γ : Gm) (x : Str) (k : Nat) (f : TCL → Option (Except Er WebD)) : Prop where
  ex : ∃ a fd ps, FnOk Γ.P Γ.w Γ.K Γ.mg Γ.base (L2N.CX Γ.P Γ.w) k a fd ps (specCL Γ f) ∧ Mk Γ.K (Γ.C 20) a ∧ Γ.mg x = some (.ref (Γ.C 20)) ∧ Binds Γ.K fd ps []
abbrev stoL (t : TCL) : Sto := [ow (OL.mk t.1), ow (OL.mk t.2.1), ow (OL.mk t.2.2.1)]
abbrev stCL (n : Nat) (t : TCL) (w : WS) : Sto := vl w :: (stoL t ++ deads (n - 4))
section
variable {Γ : Gm} {x qual : Str} {st : Stmt} {N ps : List Str} {k : Nat}
theorem at_startCL {G H0 : Hp} {x dx a b c : Addr} {t : TCL} (s : Sub G H0) (hx : H0 x = none) (hdx : H0 dx = none) (ne : dx ≠ x) (r : Lent Γ G H0 a b c t) (hn : 4 ≤ N.length) :
    At Γ ⟨G, H0, [a, b, c], L2.start N [.ref x, .ref a, .ref b, .ref c], [0, 1, 2, 3]⟩ (ow WS.w0 :: (stoL t ++ deads (N.length - 4))) G (upd (upd H0 dx (.own x)) x (.ins (Γ.C 20) dx [])) (L2.start N [.ref x, .ref a, .ref b, .ref c]) := by
  obtain ⟨nd, ga, gb, gc, ⟨va, ha, ra⟩, ⟨vb, hb, rb⟩, ⟨vc, hc, rc⟩⟩ := r
  simp only [List.nodup_cons, List.mem_cons, List.not_mem_nil, or_false, not_or] at nd
  obtain ⟨⟨nab, nac⟩, nbc, _⟩ := nd
  have kp : ∀ y o, H0 y = some o → upd (upd H0 dx (.own x)) x (.ins (Γ.C 20) dx []) y = some o := fun y o ho => by
    rw [upd_ne (fun z => by rw [z, hx] at ho; cases ho), upd_ne (fun z => by rw [z, hdx] at ho; cases ho)]
    exact ho
  have nx : ∀ {y vs}, H0 y = some (HO.lst vs) → y ≠ x ∧ y ≠ dx := fun e => ⟨(fun z => by rw [z, hx] at e; cases e), (fun z => by rw [z, hdx] at e; cases e)⟩
  obtain ⟨ax, adx⟩ := nx ha
  obtain ⟨bx, bdx⟩ := nx hb
  obtain ⟨cx, cdx⟩ := nx hc
  refine ⟨fun y o ho => kp y o (s y o ho), .refl _, fun y o _ h => kp y o h, fun y h => ?_, fun y _ _ h => .inl h, ⟨fun i => match i with | 0 => [x, dx] | 1 => [a] | 2 => [b] | 3 => [c] | _ => [], ⟨by simp [L2.start], fun i sl e => ?_, fun i j y h h' => ?_, fun i hi => ?_⟩, fun i y h => ?_⟩, fun _ _ => rfl⟩
  · show upd (upd H0 dx (.own x)) x (.ins (Γ.C 20) dx []) y ≠ none
    cases q : H0 y with
    | none => exact absurd q h
    | some o => rw [kp y o q]; simp
  · match i, e with
    | 0, e =>
      have e : ow WS.w0 = sl := Option.some.inj e
      subst e
      exact ⟨some (.ref x), by simp [L2.start], .ref x, rfl, x, dx, rfl, by rw [upd_ne ne, upd_same], rfl, upd_same⟩
    | 1, e =>
      have e : ow (OL.mk t.1) = sl := Option.some.inj e
      subst e
      exact ⟨some (.ref a), by simp [L2.start], .ref a, rfl, a, va, rfl, rfl, kp a _ ha, ra⟩
    | 2, e =>
      have e : ow (OL.mk t.2.1) = sl := Option.some.inj e
      subst e
      exact ⟨some (.ref b), by simp [L2.start], .ref b, rfl, b, vb, rfl, rfl, kp b _ hb, rb⟩
    | 3, e =>
      have e : ow (OL.mk t.2.2.1) = sl := Option.some.inj e
      subst e
      exact ⟨some (.ref c), by simp [L2.start], .ref c, rfl, c, vc, rfl, rfl, kp c _ hc, rc⟩
    | i + 4, e =>
      have e : (deads (N.length - 4))[i]? = some sl := e
      obtain ⟨e1, e2⟩ := get_rep e
      subst e1
      refine ⟨none, ?_, rfl⟩
      unfold L2.start
      rw [List.getElem?_append_right (by simp), List.getElem?_replicate, if_pos]
      simp
      omega
  · have h0 : ∀ n : Nat, n + 4 = i ∨ n + 4 = j → False := fun n hn => by
      rcases hn with z | z
      · subst z; simp at h
      · subst z; simp at h'
    match i, j, h, h' with
    | 0, 0, _, _ => rfl
    | 1, 1, _, _ => rfl
    | 2, 2, _, _ => rfl
    | 3, 3, _, _ => rfl
    | i + 4, j, _, _ => exact (h0 i (.inl rfl)).elim
    | 0, j + 4, _, _ => exact (h0 j (.inr rfl)).elim
    | 1, j + 4, _, _ => exact (h0 j (.inr rfl)).elim
    | 2, j + 4, _, _ => exact (h0 j (.inr rfl)).elim
    | 3, j + 4, _, _ => exact (h0 j (.inr rfl)).elim
    | 0, 1, h, h' => simp at h h'; rcases h with z | z <;> rw [h'] at z <;> first | exact absurd z ax | exact absurd z adx
    | 0, 2, h, h' => simp at h h'; rcases h with z | z <;> rw [h'] at z <;> first | exact absurd z bx | exact absurd z bdx
    | 0, 3, h, h' => simp at h h'; rcases h with z | z <;> rw [h'] at z <;> first | exact absurd z cx | exact absurd z cdx
    | 1, 0, h, h' => simp at h h'; rcases h' with z | z <;> rw [h] at z <;> first | exact absurd z ax | exact absurd z adx
    | 2, 0, h, h' => simp at h h'; rcases h' with z | z <;> rw [h] at z <;> first | exact absurd z bx | exact absurd z bdx
    | 3, 0, h, h' => simp at h h'; rcases h' with z | z <;> rw [h] at z <;> first | exact absurd z cx | exact absurd z cdx
    | 1, 2, h, h' => simp at h h'; exact absurd (h.symm.trans h') nab
    | 1, 3, h, h' => simp at h h'; exact absurd (h.symm.trans h') nac
    | 2, 1, h, h' => simp at h h'; exact absurd (h'.symm.trans h) nab
    | 2, 3, h, h' => simp at h h'; exact absurd (h.symm.trans h') nbc
    | 3, 1, h, h' => simp at h h'; exact absurd (h'.symm.trans h) nac
    | 3, 2, h, h' => simp at h h'; exact absurd (h'.symm.trans h) nbc
  · have hi : N.length ≤ i := by
      simp at hi
      omega
    match i, hi with
    | i + 4, _ => rfl
    | 0, hi => omega
    | 1, hi => omega
    | 2, hi => omega
    | 3, hi => omega
  · match i, h with
    | 0, h =>
      simp at h
      rcases h with z | z
      · rw [z]; exact ⟨s.none hx, .inl hx⟩
      · rw [z]; exact ⟨s.none hdx, .inl hdx⟩
    | 1, h => simp at h; rw [h]; exact ⟨ga, .inr (by simp)⟩
    | 2, h => simp at h; rw [h]; exact ⟨gb, .inr (by simp)⟩
    | 3, h => simp at h; rw [h]; exact ⟨gc, .inr (by simp)⟩
    | i + 4, h => simp at h
theorem atCL_end {G H0 G' H' : Hp} {x a b c : Addr} {t : TCL} {p g : List Tt} {su : List ((Tt × Tt) × Bool)} {σ' : L2.St} (nd : [a, b, c].Nodup)
    (A : At Γ ⟨G, H0, [a, b, c], L2.start N [.ref x, .ref a, .ref b, .ref c], [0, 1, 2, 3]⟩ (stCL N.length t (.w3 p g su)) G' H' σ') : GrowF [a, b, c] G H0 G' H' ∧ Lent Γ G' H' a b c t ∧ rep Γ G' (.ref x) (WebD.mk p g su) := by
  have val : ∀ (i : Nat) (u v : V), i ∈ [0, 1, 2, 3] → [V.ref x, .ref a, .ref b, .ref c][i]? = some u → σ'[i]? = some (some v) → v = u := fun i u v hi e1 e2 => by
    have fx := A.fix i hi
    have e3 : (L2.start N [.ref x, .ref a, .ref b, .ref c])[i]? = some (some u) := by
      unfold L2.start
      have hl : i < [V.ref x, .ref a, .ref b, .ref c].length := (List.getElem?_eq_some_iff.mp e1).1
      rw [List.getElem?_append_left (by simpa using hl), List.getElem?_map, e1]
      rfl
    have fx : σ'[i]? = (L2.start N [.ref x, .ref a, .ref b, .ref c])[i]? := fx
    rw [e2, e3] at fx
    exact Option.some.inj (Option.some.inj fx)
  obtain ⟨φ, h1, h3⟩ := A.slots
  obtain ⟨v0, e0, r0⟩ := A.get (i := 0) (a := WS.w3 p g su) rfl
  have z0 := val 0 _ _ (by simp) rfl e0
  subst z0
  have part : ∀ (i : Nat) (l : Addr) {α : Type} [Rp α] (xs : List α), i ∈ [0, 1, 2, 3] → [V.ref x, .ref a, .ref b, .ref c][i]? = some (.ref l) → (stCL N.length t (.w3 p g su))[i]? = some (ow (OL.mk xs)) → G' l = none ∧ ∃ vs, H' l = some (.lst vs) ∧ RpL Γ G' vs xs := fun i l α _ xs hi e1 e2 => by
    obtain ⟨o, k1, v, k2, l', vs, rfl, k3, k4, k5⟩ := h1.ok i _ e2
    subst k2
    have z := val i _ _ hi e1 k1
    cases z
    exact ⟨(h3 i l (by rw [k3]; simp)).1, vs, k4, k5⟩
  obtain ⟨ga, qa⟩ := part 1 a t.1 (by simp) rfl rfl
  obtain ⟨gb, qb⟩ := part 2 b t.2.1 (by simp) rfl rfl
  obtain ⟨gc, qc⟩ := part 3 c t.2.2.1 (by simp) rfl rfl
  exact ⟨⟨A.le, A.keep, A.live, A.sub, A.thin⟩, ⟨nd, ga, gb, gc, qa, qb, qc⟩, r0⟩
theorem calCL_of (D : DefC Γ x qual st ps) (Sc : FnScope N ps (defScope st)) {m : TCL → Option (Fl WS Empty Unit Unit)} (hps : 4 = ps.length)
    (hb : ∀ (X : Cx) (B : Bs) (t : TCL) (W : WX) (M : List Addr), Dok X Γ B N (defScope st) k [0, 1, 2, 3] W M → XB X Γ B (ktC N.length W) (ow WS.w0 :: (stoL t ++ deads (N.length - 4))) (defBody st) (m t) (stCL N.length t)) (fm : TCL → Option (Except Er WebD)) (hm : ∀ t, fm t = (m t).bind retC) : CalCL Γ x (k + 1) fm := by
  obtain ⟨a, fd, F, hM, hg, bi⟩ := D.ex
  refine ⟨a, fd, ps, L2N.okX F Sc (fun vs H Q E h => ?_) (fun cdv A outer s H vs Q E hr h => ?_), hM, hg, bi⟩
  · obtain ⟨G, H0, x, dx, a, b, c, t, w, _, _, _, _, _, h6, _⟩ := h
    rw [h6]
    exact hps
  · obtain ⟨G, H0, x, dx, a, b, c, t, w, h1, h2, h3, h4, h5, h6, h7, h8, q⟩ := h
    have hN : 4 ≤ N.length := by
      rw [hps]
      have z := congrArg List.length Sc.pre
      rw [List.length_take] at z
      omega
    subst h5 h6
    have A0 := at_startCL (N := N) h1 h2 h3 h4 h7 hN
    refine ⟨_, hb _ ⟨G, H0, [a, b, c], L2.start N [.ref x, .ref a, .ref b, .ref c], [0, 1, 2, 3]⟩ t (fun cls d _ H => E cls d H) [a, b, c] ⟨⟨rfl, rfl, rfl, rfl, rfl, rfl, Sc.nd, rfl, rfl, hr⟩, passes_of rfl, fun _ => rfl, L2N.takes_of rfl rfl rfl rfl, rfl, rfl, rfl, rfl⟩, ?_⟩
    rw [hm] at h8
    cases e : m t with
    | none => rw [e] at h8; cases h8
    | some r =>
      rw [e] at h8
      refine ⟨G, r, A0, by first | exact e | rfl, ?_⟩
      cases r with
      | nx ws =>
        cases ws with
        | w3 p g su =>
          have h8 : some (Except.ok (WebD.mk p g su)) = some (Except.ok w) := h8
          cases h8
          intro G' H' σ' A'
          obtain ⟨q1, q2, q3⟩ := atCL_end h7.nd A'
          exact q G' H' q1 q2 q3
        | _ => cases h8
      | bk l => exact l.elim
      | ct l => exact l.elim
      | ret b' c => cases h8
      | err e' c => cases h8
end
section
variable {X : Cx} {Γ : Gm} {B : Bs} {ρ : Sto} {N : List Str} {sc : Scope} {k j j0 j1 j2 : Nat} {pos p p0 p1 p2 q0 q1 q2 r0 r1 r2 : Pos} {x y : Str}
theorem xf_makeL (c : Cok X Γ N sc k) {f : TCL → Option (Except Er WebD)} (h : CalCL Γ x j f) (hk : j + 1 ≤ k) (i : Nat) {z : O3} (hi : ρ[i]? = some (ow z)) (hN : N[i]? = some y) (hv : Vis sc y) (hg : Glb sc x) (hdb : (x == ("__debug__" : Str)) = false := by decide) (hd : (y == ("__debug__" : Str)) = false := by decide) (hcd : (y == ("__classdict__" : Str)) = false := by decide)
    (s1 : starEach [.Subscript (.Name y p0) (.Constant (.int 0) j0 q0) r0, .Subscript (.Name y p1) (.Constant (.int 1) j1 q1) r1, .Subscript (.Name y p2) (.Constant (.int 2) j2 q2) r2] X.env = (false, eval (.Subscript (.Name y p0) (.Constant (.int 0) j0 q0) r0) X.env) :: starEach [.Subscript (.Name y p1) (.Constant (.int 1) j1 q1) r1, .Subscript (.Name y p2) (.Constant (.int 2) j2 q2) r2] X.env := by rfl)
    (s2 : starEach [.Subscript (.Name y p1) (.Constant (.int 1) j1 q1) r1, .Subscript (.Name y p2) (.Constant (.int 2) j2 q2) r2] X.env = (false, eval (.Subscript (.Name y p1) (.Constant (.int 1) j1 q1) r1) X.env) :: starEach [.Subscript (.Name y p2) (.Constant (.int 2) j2 q2) r2] X.env := by rfl)
    (s3 : starEach [.Subscript (.Name y p2) (.Constant (.int 2) j2 q2) r2] X.env = (false, eval (.Subscript (.Name y p2) (.Constant (.int 2) j2 q2) r2) X.env) :: starEach [] X.env := by rfl)
    (hpl : (backTo pos (starEach [.Subscript (.Name y p1) (.Constant (.int 1) j1 q1) r1, .Subscript (.Name y p2) (.Constant (.int 2) j2 q2) r2] X.env)).any (·.1) = false := by rfl) :
    XF X Γ B ρ (.Call (.Name x p) [.Subscript (.Name y p0) (.Constant (.int 0) j0 q0) r0, .Subscript (.Name y p1) (.Constant (.int 1) j1 q1) r1, .Subscript (.Name y p2) (.Constant (.int 2) j2 q2) r2] [] pos) ((f (z.a, z.b, z.c, ())).bind fun r => (okOf r).bind fun w => some (w, ())) (fun _ : Unit => ρ) := by
  obtain ⟨a, fd, ps, Fo, hM, hm, bi⟩ := h.ex
  refine imE (pe_makeZ (CX := L2N.CX X.prog X.w) (E := fun _ _ _ _ => False) (by rw [c.hK]; exact hM) (by rw [c.hP, c.hw, c.hK, c.hmg, c.hbase]; exact Fo) (c.room.mono hk) (c.gl hg) (by rw [c.hmg]; exact hm) (by rw [c.hK]; exact bi) (fun σ pins H s e s' I h => L2N.passL pins σ H s e s' I h)
    (pa_cons (pe_ix ix_list (pv_ c hN hv hd hcd) pe_int fun _ _ => rfl) (pa_cons (pe_ix ix_list (pv_ c hN hv hd hcd) pe_int fun _ _ => rfl) (pa_cons (pe_ix ix_list (pv_ c hN hv hd hcd) pe_int fun _ _ => rfl) pa_nil s3) s2) s1) hdb s1 hpl) fun σ H Q ⟨G, r, u, A, e, q⟩ => ?_
  cases hft : f (z.a, z.b, z.c, ()) with
  | none => rw [hft] at e; cases e
  | some b0 =>
    rw [hft] at e
    cases b0 with
    | error er => cases e
    | ok w =>
      cases e
      obtain ⟨v, fp, h1, ⟨pp, a, b, cc, va, vb, vc, rfl, rfl, nd, hp, ha, hb, hc, ra, rb, rc⟩, h2, close⟩ := A.openF hi
      have nd' := nd
      rw [List.nodup_cons] at nd'
      obtain ⟨np, nd3⟩ := nd'
      refine ⟨.ref pp, h1, pp, _, 0, .ref a, rfl, rfl, SqL.of hp, rfl, .ref pp, h1, pp, _, 1, .ref b, rfl, rfl, SqL.of hp, rfl, .ref pp, h1, pp, _, 2, .ref cc, rfl, rfl, SqL.of hp, rfl, fun xx dx hx hdx ne => ⟨G, H, xx, dx, a, b, cc, _, _, A.sub, hx, hdx, ne, rfl, rfl, ⟨nd3, h2 a (by simp), h2 b (by simp), h2 cc (by simp), ⟨va, ha, ra⟩, ⟨vb, hb, rb⟩, ⟨vc, hc, rc⟩⟩, hft, fun G' H' gf le rw' => ⟨rfl, ?_⟩⟩⟩
      obtain ⟨_, ga, gb, gc, ⟨va', ha', ra'⟩, ⟨vb', hb', rb'⟩, ⟨vc', hc', rc'⟩⟩ := le
      have gp : G' pp = none := (gf.thin pp np (some_ne hp) (h2 pp (by simp))).none fun us e => by rw [hp] at e; cases e
      have A' := close _ instOwO3 z G' H' [pp, a, b, cc] (gf.sup (by simp)) (fun y hy => by
        refine ⟨?_, .inl hy⟩
        simp only [List.mem_cons, List.not_mem_nil, or_false] at hy
        rcases hy with z | z | z | z <;> rw [z] <;> assumption) ⟨pp, a, b, cc, va', vb', vc', rfl, rfl, nd, gf.keep pp _ np hp, ha', hb', hc', ra', rb', rc'⟩
      have eρ : ρ.set i (ow z) = ρ := by
        obtain ⟨hl, e⟩ := List.getElem?_eq_some_iff.mp hi
        rw [← e]
        exact List.set_getElem_self hl
      rw [eρ] at A'
      exact q (.ref xx) G' H' gf.leG A' rw'
end
end Sim
namespace Sim
open PySem PySem.Spec PyProof.Rows L2
open Rp (rep)
open At1 (toV)
open Ow (own)
open RpA (repA stoA)
structure Rg4 where
  p : Addr
  a : Addr
  b : Addr
  c : Addr
structure O3g (r : Rg4) where
  n : Nat
def LstN (H : Hp) (a : Addr) (n : Nat) : Prop := ∃ vs, H a = some (.lst vs) ∧ vs.length ≤ n
theorem LstN.ne {H : Hp} {a : Addr} {n : Nat} (h : LstN H a n) : H a ≠ none := by obtain ⟨vs, e, _⟩ := h; exact some_ne e
theorem LstN.nt {H : Hp} {a : Addr} {n : Nat} (h : LstN H a n) : ∀ ws, H a ≠ some (.tup ws) := fun ws e2 => by obtain ⟨vs, e, _⟩ := h; rw [e] at e2; cases e2
theorem LstN.keep {H H' : Hp} {a : Addr} {n m : Nat} (h : LstN H a n) (k : ∀ o, H a = some o → H' a = some o) (hm : n ≤ m) : LstN H' a m := by
  obtain ⟨vs, e, l⟩ := h
  exact ⟨vs, k _ e, Nat.le_trans l hm⟩
instance instOwO3g {r : Rg4} : Ow (O3g r) where
  own := fun _ G H v fp s => v = .ref r.p ∧ fp = [r.a, r.b, r.c] ∧ [r.a, r.b, r.c].Nodup ∧ G r.p = some (.lst [.ref r.a, .ref r.b, .ref r.c]) ∧ LstN H r.a s.n ∧ LstN H r.b s.n ∧ LstN H r.c s.n
  stay := fun ⟨h1, h2, h3, h4, h5, h6, h7⟩ e k => ⟨h1, h2, h3, e _ _ h4, h5.keep (fun o q => k _ (by rw [h2]; simp) o q) (Nat.le_refl _), h6.keep (fun o q => k _ (by rw [h2]; simp) o q) (Nat.le_refl _), h7.keep (fun o q => k _ (by rw [h2]; simp) o q) (Nat.le_refl _)⟩
  there := fun ⟨h1, h2, h3, h4, h5, h6, h7⟩ x hx => by
    rw [h2] at hx
    simp only [List.mem_cons, List.not_mem_nil, or_false] at hx
    rcases hx with z | z | z <;> rw [z]
    · exact h5.ne
    · exact h6.ne
    · exact h7.ne
  nt := fun ⟨h1, h2, h3, h4, h5, h6, h7⟩ x hx => by
    rw [h2] at hx
    simp only [List.mem_cons, List.not_mem_nil, or_false] at hx
    rcases hx with z | z | z <;> rw [z]
    · exact h5.nt
    · exact h6.nt
    · exact h7.nt
  F := Unit
  iF := inferInstance
  toF := fun _ => ()
  canF := false
  fz := fun h => by cases h
structure OG where
  n : Nat
instance instOwOG : Ow OG where
  own := fun _ _ H v fp s => ∃ a, v = .ref a ∧ fp = [a] ∧ LstN H a s.n
  stay := fun ⟨a, h1, h2, h3⟩ e k => ⟨a, h1, h2, h3.keep (fun o q => k _ (by rw [h2]; simp) o q) (Nat.le_refl _)⟩
  there := fun ⟨a, h1, h2, h3⟩ x hx => by
    rw [h2] at hx
    rw [List.mem_singleton.mp hx]
    exact h3.ne
  nt := fun ⟨a, h1, h2, h3⟩ x hx => by
    rw [h2] at hx
    rw [List.mem_singleton.mp hx]
    exact h3.nt
  F := Unit
  iF := inferInstance
  toF := fun _ => ()
  canF := false
  fz := fun h => by cases h
inductive It (r : Rg4) where
  | a
  | b
  | c
def It.ad {r : Rg4} : It r → Addr
  | .a => r.a
  | .b => r.b
  | .c => r.c
instance {r : Rg4} : Rp (It r) := ⟨fun _ _ v k => v = .ref k.ad, fun _ h => h⟩
def O3.top (z : O3) : Nat := z.a.length + z.b.length + z.c.length
def forG3 (f : Nat → Option Nat) (n : Nat) : Option Nat := (f n).bind fun n => (f n).bind fun n => (f n).bind fun n => some n
section
variable {X : Cx} {Γ : Gm} {B : Bs} {L β C : Type} [Rp β] {F : Kt L β C} {ρ ρ' : Sto} {N : List Str} {sc : Scope} {k : Nat} {fx : List Nat} {W : WX} {M : List Addr} {pos p : Pos} {tg e o : Expr} {body sts : List Stmt} {S : Type} {sto : S → Sto} {x y : Str} {r : Rg4} {α : Type} [Rp α]
theorem xb_open3 {i : Nat} {z : O3} {m : Option (Fl S L β C)} (hi : ρ[i]? = some (ow z)) (h : ∀ r : Rg4, XB X Γ B F (ρ.set i (ow (O3g.mk (r := r) z.top))) sts m sto) : XB X Γ B F ρ sts m sto := by
  refine imB (allB h) fun D σ H ⟨G, s, A, e, q⟩ => ?_
  obtain ⟨v, fp, h1, ⟨p, a, b, c, va, vb, vc, rfl, rfl, nd, hp, ha, hb, hc, ra, rb, rc⟩, h2, h3⟩ := A.openF hi
  have nd' := nd
  rw [List.nodup_cons] at nd'
  obtain ⟨np, nd3⟩ := nd'
  have la : va.length = z.a.length := ra.length
  have lb : vb.length = z.b.length := rb.length
  have lc : vc.length = z.c.length := rc.length
  have hg : G p = none := h2 p (by simp)
  have ue : ∀ y, y ≠ p → upd G p (HO.lst [.ref a, .ref b, .ref c]) y = G y := fun y hy => upd_ne hy
  refine ⟨⟨p, a, b, c⟩, upd G p (.lst [.ref a, .ref b, .ref c]), s, h3 _ instOwO3g (O3g.mk (r := ⟨p, a, b, c⟩) z.top) _ H [a, b, c] ⟨fun y u hy => ?_, fun y u _ hy => hy, fun y hy => hy, fun y u hy => ?_, fun y hm hy hgy => .inl ?_⟩ (fun y hy => ⟨?_, .inl (List.mem_cons_of_mem _ hy)⟩) ⟨rfl, rfl, nd3, upd_same, ⟨va, ha, ?_⟩, ⟨vb, hb, ?_⟩, ⟨vc, hc, ?_⟩⟩, e, q⟩
  · rw [ue y (fun z => by rw [z, hg] at hy; cases hy)]; exact hy
  · by_cases zz : y = p
    · subst zz
      rw [upd_same] at hy
      rw [hp]; exact hy
    · rw [ue y zz] at hy; exact A.sub y u hy
  · rw [ue y (fun z => hm (by rw [z]; simp))]; exact hgy
  · rw [ue y (fun z => np (by rw [← z]; exact hy))]
    exact h2 y (List.mem_cons_of_mem _ hy)
  · show va.length ≤ z.a.length + z.b.length + z.c.length
    omega
  · show vb.length ≤ z.a.length + z.b.length + z.c.length
    omega
  · show vc.length ≤ z.a.length + z.b.length + z.c.length
    omega
theorem xe_o3g (c : Cok X Γ N sc k) (i : Nat) {n : Nat} (hi : ρ[i]? = some (ow (O3g.mk (r := r) n))) (hN : N[i]? = some x) (hv : Vis sc x) (hd : (x == ("__debug__" : Str)) = false := by decide) (hcd : (x == ("__classdict__" : Str)) = false := by decide) :
    XE X Γ B ρ (.Name x p) (some [(It.a : It r), .b, .c]) := imE (pv_ c hN hv hd hcd) fun σ H Q ⟨G, y, A, e, q⟩ => by
  cases e
  obtain ⟨v, fp, h1, ⟨rfl, h2, h3, h4, h5⟩, _⟩ := A.getO hi
  exact ⟨.ref r.p, h1, q _ G H (.refl A.sub) ⟨r.p, _, rfl, h4, .cons rfl (.cons rfl (.cons rfl .nil))⟩⟩
theorem Opn.o3g {G H : Hp} {σ : L2.St} {v : V} {n : Nat} {up : O3g r → Sto} (o : Opn Γ B G H σ v instOwO3g (O3g.mk (r := r) n) up) (k : It r) : Opn Γ B G H σ (.ref k.ad) instOwOG (OG.mk n) fun w' => up (O3g.mk (max n w'.n)) := by
  obtain ⟨fp, ⟨rfl, rfl, nd, hp, ha, hb, hc⟩, h2, h3⟩ := o
  have nd' := nd
  simp only [List.nodup_cons, List.mem_cons, List.not_mem_nil, or_false, not_or] at nd'
  obtain ⟨⟨nab, nac⟩, nbc, _⟩ := nd'
  have mem : k.ad ∈ [r.a, r.b, r.c] := by cases k <;> simp [It.ad]
  refine ⟨[k.ad], ⟨k.ad, rfl, rfl, by cases k <;> assumption⟩, fun x hx => h2 x (by rw [List.mem_singleton.mp hx]; exact mem), fun w' G' H' fp' g hf ow' => ?_⟩
  obtain ⟨x', e1, e2, hx'⟩ := ow'
  cases e1
  subst e2
  have old : ∀ y ∈ [r.a, r.b, r.c], y ≠ k.ad → LstN H y n → LstN H' y (max n w'.n) := fun y hy ne h => h.keep (fun o q => g.keep y o (fun m => ne (List.mem_singleton.mp m)) q) (Nat.le_max_left _ _)
  have new : LstN H' k.ad (max n w'.n) := hx'.keep (fun o q => q) (Nat.le_max_right _ _)
  have gn : ∀ y ∈ [r.a, r.b, r.c], LstN H y n → G' y = none := fun y hy h => by
    by_cases z : y = k.ad
    · rw [z]; exact (hf _ (by simp)).1
    · obtain ⟨vs, e, _⟩ := h
      exact g.th (fun m => z (List.mem_singleton.mp m)) (some_ne e) (h2 y hy) fun us e2 => by rw [e] at e2; cases e2
  have pick : ∀ y, y ∈ [r.a, r.b, r.c] → LstN H y n → LstN H' y (max n w'.n) := fun y hy h => by
    by_cases z : y = k.ad
    · rw [z]; exact new
    · exact old y hy z h
  refine h3 (O3g.mk (max n w'.n)) G' H' [r.a, r.b, r.c] (g.sup fun y hy => by rw [List.mem_singleton.mp hy]; exact mem) (fun y hy => ⟨?_, .inl hy⟩) ⟨rfl, rfl, nd, g.leG _ _ hp, pick _ (by simp) ha, pick _ (by simp) hb, pick _ (by simp) hc⟩
  have hy' := hy
  simp only [List.mem_cons, List.not_mem_nil, or_false] at hy'
  rcases hy' with z | z | z
  · exact gn y hy (by rw [z]; exact ha)
  · exact gn y hy (by rw [z]; exact hb)
  · exact gn y hy (by rw [z]; exact hc)
theorem xow_o3g (d : Cok X Γ N sc k) (i l : Nat) {n : Nat} {q : It r} (hl : ρ[l]? = some (vl q)) (hi : ρ[i]? = some (ow (O3g.mk (r := r) n))) (hN : N[l]? = some x) (hv : Vis sc x) (hd : (x == ("__debug__" : Str)) = false := by decide) (hcd : (x == ("__classdict__" : Str)) = false := by decide) :
    XOw X Γ B ρ (.Name x p) (OG.mk n) (fun w' => ρ.set i (ow (O3g.mk (r := r) (max n w'.n)))) := imE (pv_ d hN hv hd hcd) fun σ H Q ⟨G, A, qq⟩ => by
  obtain ⟨v, h1, h2⟩ := A.get hl
  have h2 : v = .ref q.ad := h2
  subst h2
  obtain ⟨vs, h3, op⟩ := A.opn hi
  exact ⟨.ref q.ad, h1, qq _ G H (.refl A.sub) (op.o3g q)⟩
theorem up_o3g {i : Nat} {n : Nat} (h : ρ[i]? = some (ow (O3g.mk (r := r) n))) : (fun w' : OG => ρ.set i (ow (O3g.mk (r := r) (max n w'.n)))) (OG.mk n) = ρ := by
  show ρ.set i (ow (O3g.mk (r := r) (max n n))) = ρ
  rw [Nat.max_self]
  obtain ⟨hl, e⟩ := List.getElem?_eq_some_iff.mp h
  rw [← e]
  exact List.set_getElem_self hl
theorem xp_appG (d : Dok X Γ B N sc k fx W M) {m : Option α} {n : Nat} {up : OG → Sto} {apos cpos : Pos} (h : XOw X Γ B ρ o (OG.mk n) up) (hup : up (OG.mk n) = ρ) (he : XE X Γ B ρ e m) (hbase : attributeBase o "append" X.env (eval o X.env) = eval o X.env := by rfl)
    (hfew : ((backTo cpos (starEach [e] X.env)).all (fun x => !x.1) && (backToKw cpos (keywordEach [] X.env)).all (fun x => x.1.isSome)
      && decide ([e].length + ([] : List Keyword).length + (if ([] : List Keyword).isEmpty then 0 else 1) < 30)) = true := by rfl)
    (hline : (apos.endLine == cpos.line) = true := by rfl) (hs : starEach [e] X.env = (false, eval e X.env) :: starEach [] X.env := by rfl) (hw : swapsWith (.Call (.Attribute o "append" apos) [e] [] cpos) none pos.line X.env = pure false := by rfl) :
    XP1 X Γ B ρ (.Expr (.Call (.Attribute o "append" apos) [e] [] cpos) pos) (m.bind fun _ => if n + 1 ≤ BIG then some (n + 1) else none) (fun n' => up (OG.mk n')) :=
  imS (ps_expr (pe_bm PySem.F.plainAttrs_list PySem.F.slot_list_append PySem.F.type_list_append mt_append h (pa_cons he pa_nil hs) hbase hfew hline hs (by rfl)) hw) fun D σ H ⟨G, s, A, e, q⟩ => by
  cases m with
  | none => cases e
  | some y =>
    obtain ⟨hl, e⟩ := ite_some (show (if n + 1 ≤ BIG then some (n + 1) else none) = some s from e)
    subst e
    refine ⟨G, A, fun v G1 H1 g1 op => ?_⟩
    obtain ⟨fp, ⟨p, rfl, h3, vs, h4, h5⟩, _⟩ := id op
    have h5 : vs.length ≤ n := h5
    refine ⟨.inl ⟨rfl, vs, SqL.of h4⟩, G1, y, by rw [← hup]; exact op.at g1.sub, rfl, fun v2 G2 H2 g2 r2 => ⟨p, vs, v2, rfl, rfl, g2.leH _ _ h4, big_lt (by omega), ?_⟩⟩
    obtain ⟨fp2, ⟨p2, e1, k3, vs2, k4, k5⟩, hg2, cl⟩ := op.grow g2
    cases e1
    have e4 := g2.leH _ _ h4
    rw [k4] at e4
    cases e4
    have hp : G2 p = none := hg2 p (by rw [k3]; simp)
    refine q G2 _ σ (cl (OG.mk (n + 1)) G2 _ [p] ⟨.refl _, fun a o ha e => ?_, fun a ha => ?_, fun a o e => ?_, fun a _ _ e => .inl e⟩ (fun z hz => ?_) ⟨p, rfl, rfl, _, upd_same, by show (vs ++ [v2]).length ≤ n + 1; simp; omega⟩)
    · rw [upd_ne fun z => ha (by rw [z, k3]; simp)]; exact e
    · by_cases z : a = p
      · rw [z, upd_same]; simp
      · rw [upd_ne z]; exact ha
    · rw [upd_ne fun z => by rw [z, hp] at e; cases e]; exact g2.sub a o e
    · rw [List.mem_singleton.mp hz]; exact ⟨hp, .inl (by rw [k3]; simp)⟩
end
end Sim
set_option maxHeartbeats 4000000
namespace Sim
open PySem PySem.Spec PyProof.Rows L2
abbrev TQ : Type := T3 (List Tt) (List Tt) (List (Tt × Tt))
abbrev top (i : Nat) : Stmt := HeadT.top i
abbrev mth (i j : Nat) : Stmt := HeadT.mth i j
def k_MOST_NAMES : Int := 16
def k_LETTERS : Tt := ⟨"abcdefghijklmnopqrstuvwxyz", by decide +kernel⟩
abbrev exn : List (Nat × Str) := HeadT.exn
abbrev exl : List Nat := exn.map (·.1)
structure Tx (Γ : Gm) : Prop where
  d_is_name : Def Γ "is_name" (top 9) ["text"]
  d_Web__add_suit : DefM Γ "_add_suit" "Web._add_suit" (mth 10 1) ["self", "giver", "taker"]
  d_Web___init__ : DefC Γ "Web" "Web.__init__" (mth 10 0) ["self", "pairs", "givers", "suits"]
  d_Web_names : DefM Γ "names" "Web.names" (mth 10 2) ["self"]
  d_Web_suits : DefM Γ "suits" "Web.suits" (mth 10 3) ["self"]
  d_Web_does_suit : DefM Γ "does_suit" "Web.does_suit" (mth 10 4) ["self", "giver", "taker"]
  d_Web_may_meet : DefM Γ "may_meet" "Web.may_meet" (mth 10 5) ["self", "one", "other"]
  d_Web_edges : DefM Γ "edges" "Web.edges" (mth 10 6) ["self"]
  d__law_cell : Def Γ "_law_cell" (top 12) ["_law_script", "_law_k"]
  d__law_words : Def Γ "_law_words" (top 13) ["_law_cell_here", "_law_count"]
  d__law_web : Def Γ "_law_web" (top 14) ["_law_script", "_law_most"]
  d__law_meet : Def Γ "_law_meet" (top 15) ["_law_web_here", "_law_one", "_law_other"]
  d__law_turned : Def Γ "_law_turned" (top 21) ["_law_rows", "_law_cell_here"]
  g_MOST_NAMES : ∃ t, Γ.mg "MOST_NAMES" = some (.int 16 t)
  g_LETTERS : ∃ t, Γ.mg "LETTERS" = some (.str "abcdefghijklmnopqrstuvwxyz" t)
  x_SwapError : ExT Γ "SwapError" 0
  x_InvalidWeb : ExT Γ "InvalidWeb" 1
  x_DuplicateName : ExT Γ "DuplicateName" 2
  x_UnknownName : ExT Γ "UnknownName" 3
  x_InvalidSuit : ExT Γ "InvalidSuit" 4
  b_bool : Γ.mg "bool" = none
  b_len : Γ.mg "len" = none
  b_range : Γ.mg "range" = none
  b_list : Γ.mg "list" = none
  b_int : Γ.mg "int" = none
  b_sorted : Γ.mg "sorted" = none
  b_enumerate : Γ.mg "enumerate" = none
  b_isinstance : Γ.mg "isinstance" = none
  b_min : Γ.mg "min" = none
  b_max : Γ.mg "max" = none
  b_abs : Γ.mg "abs" = none
  b_reversed : Γ.mg "reversed" = none
  b_str : Γ.mg "str" = none
  b_tuple : Γ.mg "tuple" = none
  b_repr : Γ.mg "repr" = none
  b_ValueError : Γ.mg "ValueError" = none
  b_all : Γ.mg "all" = none
  b_zip : Γ.mg "zip" = none
  b_super : Γ.mg "super" = none
  wb : WbT Γ
  xs : ExS Γ exl
abbrev s_is_name : Stmt := top 9
theorem sc_is_name : FnScope ["text", "sign"] ["text"] (defScope s_is_name) := ⟨rfl, rfl, rfl, by decide +kernel, rfl, by decide +kernel, by decide +kernel⟩
def mb_is_name (a : Tt × Unit) : Option (Fl Empty Empty Bool Unit) :=
  flb ((some (signs a.1)).bind fun xs => forF (fun (_ : Unit) (x2 : Ch) =>
  flb ((some (!inS x2 k_LETTERS)).bind fun t => if t = true then
  (some false).bind fun b => some (Fl.ret b ())
 else
  (some (Fl.nx ()))) fun _ =>
  (some (Fl.nx ()))) () xs) fun (_ : Unit) =>
  ((slen a.1).bind fun w4 => if decide ((1 : Int) ≤ w4) = true then some (decide (w4 ≤ (12 : Int))) else some false).bind fun b => some (Fl.ret b ())
def m_is_name (a : Tt × Unit) : Option Bool := (mb_is_name a).bind (retP Empty.elim)
theorem c_is_name {Γ : Gm} (T : Tx Γ) : Cal Γ "is_name" 1 false m_is_name := by
  refine cal_of (k := 0) (τ := Tt × Unit) T.d_is_name sc_is_name (S := Empty) (sto := (fun s => s.elim)) (m := mb_is_name) Empty.elim (fun s => s.elim) rfl (fun X B a d => ?_) m_is_name fun _ => rfl
  exact (xb_seq (S1 := Unit) (sto1 := (fun (_ : Unit) => [vl (a.1 : Tt), .dead])) (xb_for (S := Unit) (sto := (fun (_ : Unit) => [vl (a.1 : Tt), .dead])) d () (xi_eq (xi_str (xe_var d.toCok 0 rfl rfl (.inl rfl))) rfl) (fun B d => xg_name d 1 rfl (.inl rfl)) (fun B d _ x2 => (xb_seq (S1 := Unit) (sto1 := (fun (_ : Unit) => [vl (a.1 : Tt), vl (x2 : Ch)])) (xb_if (S := Unit) (sto := (fun (_ : Unit) => [vl (a.1 : Tt), vl (x2 : Ch)])) (xt_eq (xt_ofC (xc_op2 op_notIn_sign o_notInS (xe_var d.toCok 1 rfl rfl (.inl rfl)) (xe_glob (z := k_LETTERS) d.toCok rfl (T.g_LETTERS).choose_spec ⟨_, rfl⟩))) rfl) (xb_one (xb_ret (c := ()) (xe_eq xe_bl rfl) rfl [(0, false), (1, false)] rfl rfl)) (xb_end [] () rfl)) (fun _ => (xb_end [(1, false)] () rfl))))) (fun _ => (xb_one (xb_ret (c := ()) (xe_eq (xe_chain op_le op_le xe_int (xe_lenS d.toCok (xe_var d.toCok 0 rfl rfl (.inl rfl)) rfl T.b_len) xe_int) rfl) rfl [(0, false)] rfl rfl))))
abbrev s_Web__add_suit : Stmt := mth 10 1
theorem sc_Web__add_suit : FnScope ["self", "giver", "taker"] ["self", "giver", "taker"] (defScope s_Web__add_suit) := ⟨rfl, rfl, rfl, by decide +kernel, rfl, by decide +kernel, by decide +kernel⟩
def mb_Web__add_suit (a : Tt × Tt × Unit) (p g : List Tt) (s : SU) : Option (Fl SU Empty Unit SU) :=
  flb (((andM (some (!isIn a.1 p)) (some (!isIn a.1 g)))).bind fun t => if t = true then
  ((some a.1).bind fun _ => some (Fl.err ⟨3, 0⟩ s))
 else
  (some (Fl.nx ()))) fun _ =>
  flb (((andM (some (!isIn a.2.1 p)) (some (!isIn a.2.1 g)))).bind fun t => if t = true then
  ((some a.2.1).bind fun _ => some (Fl.err ⟨3, 0⟩ s))
 else
  (some (Fl.nx ()))) fun _ =>
  flb (((orM (some (isIn a.2.1 g)) (orM (some (decide (a.1 = a.2.1))) (some ((look s (a.1, a.2.1)).isSome))))).bind fun t => if t = true then
  ((some a.2.1).bind fun _ => some (Fl.err ⟨4, 0⟩ s))
 else
  (some (Fl.nx ()))) fun _ =>
  (dput s (a.1, a.2.1) true).bind fun (z4 : SU) =>
  (some (Fl.nx z4))
def m_Web__add_suit (a : Tt × Tt × Unit) (p g : List Tt) (s : SU) : Option (Except Er SU) := (mb_Web__add_suit a p g s).bind retS
theorem c_Web__add_suit {Γ : Gm} (T : Tx Γ) : CalS Γ "_add_suit" 1 m_Web__add_suit := by
  refine calS_of (k := 0) (τ := Tt × Tt × Unit) T.d_Web__add_suit sc_Web__add_suit (m := mb_Web__add_suit) rfl (fun X B a p g s M W d => ?_) m_Web__add_suit fun _ _ _ _ => rfl
  exact (xb_seq (S1 := Unit) (sto1 := (fun (_ : Unit) => [ow (WS.w3 p g s), vl (a.1 : Tt), vl (a.2.1 : Tt)])) (xb_if (S := Unit) (sto := (fun (_ : Unit) => [ow (WS.w3 p g s), vl (a.1 : Tt), vl (a.2.1 : Tt)])) (xt_eq (xt_w (xw_and (xt_ofC (xc_notIn (xe_var d.toCok 1 rfl rfl (.inl rfl)) (xr_of (xe_oP d.toCok T.wb 0 rfl rfl (.inl rfl))))) (xw_and1 (xt_ofC (xc_notIn (xe_var d.toCok 1 rfl rfl (.inl rfl)) (xr_of (xe_oG d.toCok T.wb 0 rfl rfl (.inl rfl)))))))) rfl) (xb_one (xb_raise d T.x_UnknownName (by decide) rfl (xe_eq (xe_var d.toCok 1 rfl rfl (.inl rfl)) rfl) [1, 2] rfl)) (xb_end [] () rfl)) (fun _ => (xb_seq (S1 := Unit) (sto1 := (fun (_ : Unit) => [ow (WS.w3 p g s), vl (a.1 : Tt), vl (a.2.1 : Tt)])) (xb_if (S := Unit) (sto := (fun (_ : Unit) => [ow (WS.w3 p g s), vl (a.1 : Tt), vl (a.2.1 : Tt)])) (xt_eq (xt_w (xw_and (xt_ofC (xc_notIn (xe_var d.toCok 2 rfl rfl (.inl rfl)) (xr_of (xe_oP d.toCok T.wb 0 rfl rfl (.inl rfl))))) (xw_and1 (xt_ofC (xc_notIn (xe_var d.toCok 2 rfl rfl (.inl rfl)) (xr_of (xe_oG d.toCok T.wb 0 rfl rfl (.inl rfl)))))))) rfl) (xb_one (xb_raise d T.x_UnknownName (by decide) rfl (xe_eq (xe_var d.toCok 2 rfl rfl (.inl rfl)) rfl) [1, 2] rfl)) (xb_end [] () rfl)) (fun _ => (xb_seq (S1 := Unit) (sto1 := (fun (_ : Unit) => [ow (WS.w3 p g s), vl (a.1 : Tt), vl (a.2.1 : Tt)])) (xb_if (S := Unit) (sto := (fun (_ : Unit) => [ow (WS.w3 p g s), vl (a.1 : Tt), vl (a.2.1 : Tt)])) (xt_eq (xt_w (xw_or (xt_ofC (xc_in (xe_var d.toCok 2 rfl rfl (.inl rfl)) (xr_of (xe_oG d.toCok T.wb 0 rfl rfl (.inl rfl))))) (xw_or (xt_ofC (xc_op2 op_eq o_eqS (xe_var d.toCok 1 rfl rfl (.inl rfl)) (xe_var d.toCok 2 rfl rfl (.inl rfl)))) (xw_or1 (xt_ofC (xc_tin d.toCok (xe_tup2 (xe_var d.toCok 1 rfl rfl (.inl rfl)) (xe_var d.toCok 2 rfl rfl (.inl rfl))) (xt_oS d.toCok T.wb 0 rfl rfl (.inl rfl)))))))) rfl) (xb_one (xb_raise d T.x_InvalidSuit (by decide) rfl (xe_eq (xe_var d.toCok 2 rfl rfl (.inl rfl)) rfl) [1, 2] rfl)) (xb_end [] () rfl)) (fun _ => (xb_pseq (sto1 := fun (z4 : SU) => [ow (WS.w3 p g z4), vl (a.1 : Tt), vl (a.2.1 : Tt)]) (xp1_eq (xp_oPut d T.wb 0 rfl rfl (.inl rfl) (xe_tup2 (xe_var d.toCok 1 rfl rfl (.inl rfl)) (xe_var d.toCok 2 rfl rfl (.inl rfl))) xe_bl) rfl) (fun z4 => (xb_end [(1, false), (2, false)] z4 rfl)))))))))
abbrev s_Web___init__ : Stmt := mth 10 0
theorem sc_Web___init__ : FnScope ["self", "pairs", "givers", "suits", "seen", "name", "giver", "taker"] ["self", "pairs", "givers", "suits"] (defScope s_Web___init__) := ⟨rfl, rfl, rfl, by decide +kernel, rfl, by decide +kernel, by decide +kernel⟩
def mb_Web___init__ (a : (List Tt) × (List Tt) × (List (Tt × Tt)) × Unit) : Option (Fl WS Empty Unit Unit) :=
  flb ((some (decide (k_MOST_NAMES < (((a.1).length : Int) + ((a.2.1).length : Int))))).bind fun t => if t = true then
  ((some (Tt.mk "size" (by decide +kernel))).bind fun _ => some (Fl.err ⟨1, 0⟩ ()))
 else
  (some (Fl.nx ()))) fun _ =>
  (some ()).bind fun _ =>
  flb ((pcat a.1 a.2.1).bind fun xs => forF (fun (s3 : (List (Tt × Bool))) (x4 : Tt) =>
  flb ((((b2 (some x4) (some ()) fun x t => some (x, t)).bind m_is_name).bind fun w5 => some (!w5)).bind fun t => if t = true then
  ((some x4).bind fun _ => some (Fl.err ⟨1, 0⟩ ()))
 else
  (some (Fl.nx ()))) fun _ =>
  flb ((some ((look s3 x4).isSome)).bind fun t => if t = true then
  ((some x4).bind fun _ => some (Fl.err ⟨2, 0⟩ ()))
 else
  (some (Fl.nx ()))) fun _ =>
  (dput s3 x4 true).bind fun (z8 : (List (Tt × Bool))) =>
  (some (Fl.nx z8))) [] xs) fun (s3 : (List (Tt × Bool))) =>
  (some a.1).bind fun (z9 : (List Tt)) =>
  (some (srt a.2.1)).bind fun (z10 : (List Tt)) =>
  (some ()).bind fun _ =>
  flb ((some a.2.2.1).bind fun xs => forF (fun (s11 : SU) (x12 : (Tt × Tt)) =>
  flb (((b2 (some x12.1) (b2 (some x12.2) (some ()) fun x t => some (x, t)) fun x t => some (x, t)).bind (fun t => (m_Web__add_suit t z9 z10 s11).bind fun r => some (exS () r))).bind fun r => some (exDo r)) fun (z13 : SU) =>
  (some (Fl.nx z13))) [] xs) fun (s11 : SU) =>
  (some (Fl.nx (WS.w3 z9 z10 s11)))
def m_Web___init__ (a : (List Tt) × (List Tt) × (List (Tt × Tt)) × Unit) : Option (Except Er WebD) := (mb_Web___init__ a).bind retC
abbrev s_Web_names : Stmt := mth 10 2
theorem sc_Web_names : FnScope ["self"] ["self"] (defScope s_Web_names) := ⟨rfl, rfl, rfl, by decide +kernel, rfl, by decide +kernel, by decide +kernel⟩
def mb_Web_names (a : WebD × Unit) : Option (Fl Empty Empty (List Tt) Unit) :=
  (pcat (a.1).pairs (a.1).givers).bind fun b => some (Fl.ret b ())
def m_Web_names (a : WebD × Unit) : Option (List Tt) := (mb_Web_names a).bind (retP Empty.elim)
theorem c_Web_names {Γ : Gm} (T : Tx Γ) : CalM Γ "names" 1 true m_Web_names := by
  refine calM_of (k := 0) (τ := Unit) T.d_Web_names sc_Web_names (S := Empty) (sto := (fun s => s.elim)) (m := mb_Web_names) Empty.elim (fun s => s.elim) rfl (fun X B a d => ?_) m_Web_names fun _ => rfl
  exact (xb_one (xb_retN (c := ()) (xn_eq (xn_cat (xr_of (xe_wP d.toCok T.wb (xe_var d.toCok 0 rfl rfl (.inl rfl)))) (xr_of (xe_wG d.toCok T.wb (xe_var d.toCok 0 rfl rfl (.inl rfl))))) rfl) rfl [(0, false)] rfl (fun _ => d.hM)))
abbrev s_Web_suits : Stmt := mth 10 3
theorem sc_Web_suits : FnScope ["self"] ["self"] (defScope s_Web_suits) := ⟨rfl, rfl, rfl, by decide +kernel, rfl, by decide +kernel, by decide +kernel⟩
def mb_Web_suits (a : WebD × Unit) : Option (Fl Empty Empty (List (Tt × Tt)) Unit) :=
  ((if (((DT.mk (a.1).suits)).l).length ≤ BIG then some (srt ((((DT.mk (a.1).suits)).l).map (·.1))) else none)).bind fun b => some (Fl.ret b ())
def m_Web_suits (a : WebD × Unit) : Option (List (Tt × Tt)) := (mb_Web_suits a).bind (retP Empty.elim)
theorem c_Web_suits {Γ : Gm} (T : Tx Γ) : CalM Γ "suits" 1 true m_Web_suits := by
  refine calM_of (k := 0) (τ := Unit) T.d_Web_suits sc_Web_suits (S := Empty) (sto := (fun s => s.elim)) (m := mb_Web_suits) Empty.elim (fun s => s.elim) rfl (fun X B a d => ?_) m_Web_suits fun _ => rfl
  exact (xb_one (xb_retN (c := ()) (xn_eq (xn_sortDT d.toCok (xt_of (xe_wS d.toCok T.wb (xe_var d.toCok 0 rfl rfl (.inl rfl)))) rfl T.b_sorted) rfl) rfl [(0, false)] rfl (fun _ => d.hM)))
abbrev s_Web_does_suit : Stmt := mth 10 4
theorem sc_Web_does_suit : FnScope ["self", "giver", "taker"] ["self", "giver", "taker"] (defScope s_Web_does_suit) := ⟨rfl, rfl, rfl, by decide +kernel, rfl, by decide +kernel, by decide +kernel⟩
def mb_Web_does_suit (a : WebD × Tt × Tt × Unit) : Option (Fl Empty Empty Bool Unit) :=
  (some ((look ((DT.mk (a.1).suits)).l (a.2.1, a.2.2.1)).isSome)).bind fun b => some (Fl.ret b ())
def m_Web_does_suit (a : WebD × Tt × Tt × Unit) : Option Bool := (mb_Web_does_suit a).bind (retP Empty.elim)
theorem c_Web_does_suit {Γ : Gm} (T : Tx Γ) : CalM Γ "does_suit" 1 false m_Web_does_suit := by
  refine calM_of (k := 0) (τ := Tt × Tt × Unit) T.d_Web_does_suit sc_Web_does_suit (S := Empty) (sto := (fun s => s.elim)) (m := mb_Web_does_suit) Empty.elim (fun s => s.elim) rfl (fun X B a d => ?_) m_Web_does_suit fun _ => rfl
  exact (xb_one (xb_ret (c := ()) (xe_eq (xe_ofC (xc_tin d.toCok (xe_tup2 (xe_var d.toCok 1 rfl rfl (.inl rfl)) (xe_var d.toCok 2 rfl rfl (.inl rfl))) (xt_of (xe_wS d.toCok T.wb (xe_var d.toCok 0 rfl rfl (.inl rfl)))))) rfl) rfl [(0, false), (1, false), (2, false)] rfl rfl))
abbrev s_Web_may_meet : Stmt := mth 10 5
theorem sc_Web_may_meet : FnScope ["self", "one", "other"] ["self", "one", "other"] (defScope s_Web_may_meet) := ⟨rfl, rfl, rfl, by decide +kernel, rfl, by decide +kernel, by decide +kernel⟩
def mb_Web_may_meet (a : WebD × Tt × Tt × Unit) : Option (Fl Empty Empty Bool Unit) :=
  flb ((some (isIn a.2.1 (a.1).givers)).bind fun t => if t = true then
  ((some a.1).bind fun w => (b2 (some a.2.1) (b2 (some a.2.2.1) (some ()) fun x t => some (x, t)) fun x t => some (x, t)).bind (fun t => m_Web_does_suit (w, t))).bind fun b => some (Fl.ret b ())
 else
  (some (Fl.nx ()))) fun _ =>
  flb ((some (isIn a.2.2.1 (a.1).givers)).bind fun t => if t = true then
  ((some a.1).bind fun w => (b2 (some a.2.2.1) (b2 (some a.2.1) (some ()) fun x t => some (x, t)) fun x t => some (x, t)).bind (fun t => m_Web_does_suit (w, t))).bind fun b => some (Fl.ret b ())
 else
  (some (Fl.nx ()))) fun _ =>
  ((andM ((some a.1).bind fun w => (b2 (some a.2.1) (b2 (some a.2.2.1) (some ()) fun x t => some (x, t)) fun x t => some (x, t)).bind (fun t => m_Web_does_suit (w, t))) ((some a.1).bind fun w => (b2 (some a.2.2.1) (b2 (some a.2.1) (some ()) fun x t => some (x, t)) fun x t => some (x, t)).bind (fun t => m_Web_does_suit (w, t))))).bind fun b => some (Fl.ret b ())
def m_Web_may_meet (a : WebD × Tt × Tt × Unit) : Option Bool := (mb_Web_may_meet a).bind (retP Empty.elim)
theorem c_Web_may_meet {Γ : Gm} (T : Tx Γ) : CalM Γ "may_meet" 2 false m_Web_may_meet := by
  refine calM_of (k := 1) (τ := Tt × Tt × Unit) T.d_Web_may_meet sc_Web_may_meet (S := Empty) (sto := (fun s => s.elim)) (m := mb_Web_may_meet) Empty.elim (fun s => s.elim) rfl (fun X B a d => ?_) m_Web_may_meet fun _ => rfl
  exact (xb_seq (S1 := Unit) (sto1 := (fun (_ : Unit) => [vl (a.1 : WebD), vl (a.2.1 : Tt), vl (a.2.2.1 : Tt)])) (xb_if (S := Unit) (sto := (fun (_ : Unit) => [vl (a.1 : WebD), vl (a.2.1 : Tt), vl (a.2.2.1 : Tt)])) (xt_eq (xt_ofC (xc_in (xe_var d.toCok 1 rfl rfl (.inl rfl)) (xr_of (xe_wG d.toCok T.wb (xe_var d.toCok 0 rfl rfl (.inl rfl)))))) rfl) (xb_one (xb_ret (c := ()) (xe_eq (xe_meth d.toCok T.wb (c_Web_does_suit T) (by decide) (xe_var d.toCok 0 rfl rfl (.inl rfl)) (xa_cons (xe_var d.toCok 1 rfl rfl (.inl rfl)) (xa_cons (xe_var d.toCok 2 rfl rfl (.inl rfl)) xa_nil))) rfl) rfl [(0, false), (1, false), (2, false)] rfl rfl)) (xb_end [] () rfl)) (fun _ => (xb_seq (S1 := Unit) (sto1 := (fun (_ : Unit) => [vl (a.1 : WebD), vl (a.2.1 : Tt), vl (a.2.2.1 : Tt)])) (xb_if (S := Unit) (sto := (fun (_ : Unit) => [vl (a.1 : WebD), vl (a.2.1 : Tt), vl (a.2.2.1 : Tt)])) (xt_eq (xt_ofC (xc_in (xe_var d.toCok 2 rfl rfl (.inl rfl)) (xr_of (xe_wG d.toCok T.wb (xe_var d.toCok 0 rfl rfl (.inl rfl)))))) rfl) (xb_one (xb_ret (c := ()) (xe_eq (xe_meth d.toCok T.wb (c_Web_does_suit T) (by decide) (xe_var d.toCok 0 rfl rfl (.inl rfl)) (xa_cons (xe_var d.toCok 2 rfl rfl (.inl rfl)) (xa_cons (xe_var d.toCok 1 rfl rfl (.inl rfl)) xa_nil))) rfl) rfl [(0, false), (1, false), (2, false)] rfl rfl)) (xb_end [] () rfl)) (fun _ => (xb_one (xb_ret (c := ()) (xe_eq (xe_and (xe_meth d.toCok T.wb (c_Web_does_suit T) (by decide) (xe_var d.toCok 0 rfl rfl (.inl rfl)) (xa_cons (xe_var d.toCok 1 rfl rfl (.inl rfl)) (xa_cons (xe_var d.toCok 2 rfl rfl (.inl rfl)) xa_nil))) (xe_and1 (xe_meth d.toCok T.wb (c_Web_does_suit T) (by decide) (xe_var d.toCok 0 rfl rfl (.inl rfl)) (xa_cons (xe_var d.toCok 2 rfl rfl (.inl rfl)) (xa_cons (xe_var d.toCok 1 rfl rfl (.inl rfl)) xa_nil))))) rfl) rfl [(0, false), (1, false), (2, false)] rfl rfl))))))
abbrev s_Web_edges : Stmt := mth 10 6
theorem sc_Web_edges : FnScope ["self", "names", "found", "a", "b"] ["self"] (defScope s_Web_edges) := ⟨rfl, rfl, rfl, by decide +kernel, rfl, by decide +kernel, by decide +kernel⟩
def mb_Web_edges (a : WebD × Unit) : Option (Fl Empty Empty (List (Int × Int)) Unit) :=
  (m_Web_names (a.1, ())).bind fun (z1 : (List Tt)) =>
  (some ([] : (List (Int × Int)))).bind fun (z2 : (List (Int × Int))) =>
  ((prange 0 ((z1).length : Int)).bind fun xs => forP (fun (s3 : (List (Int × Int))) (x4 : Int) =>
  ((prange (x4 + (1 : Int)) ((z1).length : Int)).bind fun xs => forP (fun (s5 : (List (Int × Int))) (x6 : Int) =>
  (((some a.1).bind fun w => (b2 (atI z1 x4) (b2 (atI z1 x6) (some ()) fun x t => some (x, t)) fun x t => some (x, t)).bind (fun t => m_Web_may_meet (w, t))).bind fun t => if t = true then
  (push s5 (x4, x6)).bind fun (z8 : (List (Int × Int))) =>
  (some z8)
 else
  (some s5)).bind fun (s7 : (List (Int × Int))) =>
  (some s7)) s3 xs).bind fun (s5 : (List (Int × Int))) =>
  (some s5)) z2 xs).bind fun (s3 : (List (Int × Int))) =>
  (some (Fl.ret s3 ()))
def m_Web_edges (a : WebD × Unit) : Option (List (Int × Int)) := (mb_Web_edges a).bind (retP Empty.elim)
theorem c_Web_edges {Γ : Gm} (T : Tx Γ) : CalM Γ "edges" 3 true m_Web_edges := by
  refine calM_of (k := 2) (τ := Unit) T.d_Web_edges sc_Web_edges (S := Empty) (sto := (fun s => s.elim)) (m := mb_Web_edges) Empty.elim (fun s => s.elim) rfl (fun X B a d => ?_) m_Web_edges fun _ => rfl
  exact (xb_pseq (sto1 := fun (z1 : (List Tt)) => [vl (a.1 : WebD), vl (z1 : (List Tt)), .dead, .dead, .dead]) (xp_set d 1 (xe_eq (xe_ofN (xn_meth0 d.toCok T.wb (c_Web_names T) (by decide) (xe_var d.toCok 0 rfl rfl (.inl rfl)))) rfl) rfl (.inl rfl)) (fun z1 => (xb_pseq (sto1 := fun (z2 : (List (Int × Int))) => [vl (a.1 : WebD), vl (z1 : (List Tt)), ow (OL.mk (z2 : (List (Int × Int)))), .dead, .dead]) (xp_setN d 2 (xn_eq (xn_list (α := (Int × Int)) xl_nil) rfl) rfl (.inl rfl)) (fun z2 => (xb_pseq (S1 := (List (Int × Int))) (sto1 := (fun (s3 : (List (Int × Int))) => [vl (a.1 : WebD), vl (z1 : (List Tt)), ow (OL.mk (s3 : (List (Int × Int)))), .dead, .dead])) (xp_for (S := (List (Int × Int))) (sto := (fun (s3 : (List (Int × Int))) => [vl (a.1 : WebD), vl (z1 : (List Tt)), ow (OL.mk (s3 : (List (Int × Int)))), .dead, .dead])) d z2 (xi_eq (xi_range1 d.toCok (xe_lenR d.toCok (xr_of (xe_var d.toCok 1 rfl rfl (.inl rfl))) rfl T.b_len) rfl T.b_range) rfl) (fun B d => xg_name d 3 rfl (.inl rfl)) (fun B d s3 x4 => (xp_seq (S1 := (List (Int × Int))) (sto1 := (fun (s5 : (List (Int × Int))) => [vl (a.1 : WebD), vl (z1 : (List Tt)), ow (OL.mk (s5 : (List (Int × Int)))), vl (x4 : Int), .dead])) (xp_for (S := (List (Int × Int))) (sto := (fun (s5 : (List (Int × Int))) => [vl (a.1 : WebD), vl (z1 : (List Tt)), ow (OL.mk (s5 : (List (Int × Int)))), vl (x4 : Int), .dead])) d s3 (xi_eq (xi_range2 d.toCok (xe_op2 op_add o_add (xe_var d.toCok 3 rfl rfl (.inl rfl)) xe_int) (xe_lenR d.toCok (xr_of (xe_var d.toCok 1 rfl rfl (.inl rfl))) rfl T.b_len) rfl T.b_range) rfl) (fun B d => xg_name d 4 rfl (.inl rfl)) (fun B d s5 x6 => (xp_seq (S1 := (List (Int × Int))) (sto1 := (fun (s7 : (List (Int × Int))) => [vl (a.1 : WebD), vl (z1 : (List Tt)), ow (OL.mk (s7 : (List (Int × Int)))), vl (x4 : Int), vl (x6 : Int)])) (xp_if (S := (List (Int × Int))) (sto := (fun (s7 : (List (Int × Int))) => [vl (a.1 : WebD), vl (z1 : (List Tt)), ow (OL.mk (s7 : (List (Int × Int)))), vl (x4 : Int), vl (x6 : Int)])) (xt_eq (xt_val (xe_meth d.toCok T.wb (c_Web_may_meet T) (by decide) (xe_var d.toCok 0 rfl rfl (.inl rfl)) (xa_cons (xe_ix (xr_of (xe_var d.toCok 1 rfl rfl (.inl rfl))) (xe_var d.toCok 3 rfl rfl (.inl rfl))) (xa_cons (xe_ix (xr_of (xe_var d.toCok 1 rfl rfl (.inl rfl))) (xe_var d.toCok 4 rfl rfl (.inl rfl))) xa_nil)))) rfl) (xp_seq (sto1 := fun (z8 : (List (Int × Int))) => [vl (a.1 : WebD), vl (z1 : (List Tt)), ow (OL.mk (z8 : (List (Int × Int)))), vl (x4 : Int), vl (x6 : Int)]) (xp1_eq (xp_append d 2 rfl rfl (.inl rfl) (xe_tup2 (xe_var d.toCok 3 rfl rfl (.inl rfl)) (xe_var d.toCok 4 rfl rfl (.inl rfl)))) rfl) (fun z8 => (xp_end [] z8 rfl))) (xp_end [] s5 rfl)) (fun s7 => (xp_end [(4, false)] s7 rfl))))) (fun s5 => (xp_end [(3, false)] s5 rfl))))) (fun s3 => (xb_one (xb_retO d.toCok 2 rfl rfl rfl (.inl rfl) (fun _ _ r => r) ol_fp (fun _ => d.hM) [(0, false), (1, false), (2, false)] rfl))))))))
def mb_Web___init___L (a : TCL) : Option (Fl WS Empty Unit Unit) :=
  flb ((some (decide (k_MOST_NAMES < (((a.1).length : Int) + ((a.2.1).length : Int))))).bind fun t => if t = true then
  ((some (Tt.mk "size" (by decide +kernel))).bind fun _ => some (Fl.err ⟨1, 0⟩ ()))
 else
  (some (Fl.nx ()))) fun _ =>
  (some ()).bind fun _ =>
  flb ((pcat a.1 a.2.1).bind fun xs => forF (fun (s3 : (List (Tt × Bool))) (x4 : Tt) =>
  flb ((((b2 (some x4) (some ()) fun x t => some (x, t)).bind m_is_name).bind fun w5 => some (!w5)).bind fun t => if t = true then
  ((some x4).bind fun _ => some (Fl.err ⟨1, 0⟩ ()))
 else
  (some (Fl.nx ()))) fun _ =>
  flb ((some ((look s3 x4).isSome)).bind fun t => if t = true then
  ((some x4).bind fun _ => some (Fl.err ⟨2, 0⟩ ()))
 else
  (some (Fl.nx ()))) fun _ =>
  (dput s3 x4 true).bind fun (z8 : (List (Tt × Bool))) =>
  (some (Fl.nx z8))) [] xs) fun (s3 : (List (Tt × Bool))) =>
  (some a.1).bind fun (z9 : (List Tt)) =>
  (some (srt a.2.1)).bind fun (z10 : (List Tt)) =>
  (some ()).bind fun _ =>
  flb (forF (fun (s11 : SU) (x12 : (Tt × Tt)) =>
  flb (((b2 (some x12.1) (b2 (some x12.2) (some ()) fun x t => some (x, t)) fun x t => some (x, t)).bind (fun t => (m_Web__add_suit t z9 z10 s11).bind fun r => some (exS () r))).bind fun r => some (exDo r)) fun (z13 : SU) =>
  (some (Fl.nx z13))) [] a.2.2.1) fun (s11 : SU) =>
  (some (Fl.nx (WS.w3 z9 z10 s11)))
def m_Web___init___L (a : TCL) : Option (Except Er WebD) := (mb_Web___init___L a).bind retC
theorem c_Web___init___L {Γ : Gm} (T : Tx Γ) : CalCL Γ "Web" 2 m_Web___init___L := by
  refine calCL_of (k := 1) T.d_Web___init__ sc_Web___init__ (m := mb_Web___init___L) rfl (fun X B a W M d => ?_) m_Web___init___L fun _ => rfl
  exact (xb_seq (S1 := Unit) (sto1 := (fun (_ : Unit) => [ow WS.w0, ow (OL.mk (a.1 : (List Tt))), ow (OL.mk (a.2.1 : (List Tt))), ow (OL.mk (a.2.2.1 : (List (Tt × Tt)))), .dead, .dead, .dead, .dead])) (xb_if (S := Unit) (sto := (fun (_ : Unit) => [ow WS.w0, ow (OL.mk (a.1 : (List Tt))), ow (OL.mk (a.2.1 : (List Tt))), ow (OL.mk (a.2.2.1 : (List (Tt × Tt)))), .dead, .dead, .dead, .dead])) (xt_eq (xt_ofC (xc_op2 op_gt o_gt (xe_op2 op_add o_add (xe_lenR d.toCok (xr_own d.toCok 1 rfl rfl (.inl rfl)) rfl T.b_len) (xe_lenR d.toCok (xr_own d.toCok 2 rfl rfl (.inl rfl)) rfl T.b_len)) (xe_glob (z := k_MOST_NAMES) d.toCok rfl (T.g_MOST_NAMES).choose_spec ⟨_, rfl⟩))) rfl) (xb_one (xb_raise d T.x_InvalidWeb (by decide) rfl (xe_eq xe_str rfl) [0, 1, 2, 3] rfl)) (xb_end [] () rfl)) (fun _ => (xb_pseq (sto1 := fun _ => [ow WS.w0, ow (OL.mk (a.1 : (List Tt))), ow (OL.mk (a.2.1 : (List Tt))), ow (OL.mk (a.2.2.1 : (List (Tt × Tt)))), ow (OK.mk ([] : List (Tt × Bool))), .dead, .dead, .dead]) (xp_setDK d (α := Bool) (κ := Tt) 4 rfl (.inl rfl)) (fun _ => (xb_seq (S1 := (List (Tt × Bool))) (sto1 := (fun (s3 : (List (Tt × Bool))) => [ow WS.w0, ow (OL.mk (a.1 : (List Tt))), ow (OL.mk (a.2.1 : (List Tt))), ow (OL.mk (a.2.2.1 : (List (Tt × Tt)))), ow (OK.mk (s3 : List (Tt × Bool))), .dead, .dead, .dead])) (xb_for (S := (List (Tt × Bool))) (sto := (fun (s3 : (List (Tt × Bool))) => [ow WS.w0, ow (OL.mk (a.1 : (List Tt))), ow (OL.mk (a.2.1 : (List Tt))), ow (OL.mk (a.2.2.1 : (List (Tt × Tt)))), ow (OK.mk (s3 : List (Tt × Bool))), .dead, .dead, .dead])) d [] (xi_eq (xi_list (xe_ofN (xn_cat (xr_ofN (xn_listOf d.toCok (xr_own d.toCok 1 rfl rfl (.inl rfl)) rfl T.b_list)) (xr_ofN (xn_listOf d.toCok (xr_own d.toCok 2 rfl rfl (.inl rfl)) rfl T.b_list))))) rfl) (fun B d => xg_name d 5 rfl (.inl rfl)) (fun B d s3 x4 => (xb_seq (S1 := Unit) (sto1 := (fun (_ : Unit) => [ow WS.w0, ow (OL.mk (a.1 : (List Tt))), ow (OL.mk (a.2.1 : (List Tt))), ow (OL.mk (a.2.2.1 : (List (Tt × Tt)))), ow (OK.mk (s3 : List (Tt × Bool))), vl (x4 : Tt), .dead, .dead])) (xb_if (S := Unit) (sto := (fun (_ : Unit) => [ow WS.w0, ow (OL.mk (a.1 : (List Tt))), ow (OL.mk (a.2.1 : (List Tt))), ow (OL.mk (a.2.2.1 : (List (Tt × Tt)))), ow (OK.mk (s3 : List (Tt × Bool))), vl (x4 : Tt), .dead, .dead])) (xt_eq (xt_not (xt_val (xe_call d.toCok (c_is_name T) (by decide) rfl (xa_cons (xe_var d.toCok 5 rfl rfl (.inl rfl)) xa_nil)))) rfl) (xb_one (xb_raise d T.x_InvalidWeb (by decide) rfl (xe_eq (xe_var d.toCok 5 rfl rfl (.inl rfl)) rfl) [0, 1, 2, 3, 4, 5] rfl)) (xb_end [] () rfl)) (fun _ => (xb_seq (S1 := Unit) (sto1 := (fun (_ : Unit) => [ow WS.w0, ow (OL.mk (a.1 : (List Tt))), ow (OL.mk (a.2.1 : (List Tt))), ow (OL.mk (a.2.2.1 : (List (Tt × Tt)))), ow (OK.mk (s3 : List (Tt × Bool))), vl (x4 : Tt), .dead, .dead])) (xb_if (S := Unit) (sto := (fun (_ : Unit) => [ow WS.w0, ow (OL.mk (a.1 : (List Tt))), ow (OL.mk (a.2.1 : (List Tt))), ow (OL.mk (a.2.2.1 : (List (Tt × Tt)))), ow (OK.mk (s3 : List (Tt × Bool))), vl (x4 : Tt), .dead, .dead])) (xt_eq (xt_ofC (xc_din d.toCok (xe_var d.toCok 5 rfl rfl (.inl rfl)) (xk_own d.toCok 4 rfl rfl (.inl rfl)))) rfl) (xb_one (xb_raise d T.x_DuplicateName (by decide) rfl (xe_eq (xe_var d.toCok 5 rfl rfl (.inl rfl)) rfl) [0, 1, 2, 3, 4, 5] rfl)) (xb_end [] () rfl)) (fun _ => (xb_pseq (sto1 := fun (z8 : (List (Tt × Bool))) => [ow WS.w0, ow (OL.mk (a.1 : (List Tt))), ow (OL.mk (a.2.1 : (List Tt))), ow (OL.mk (a.2.2.1 : (List (Tt × Tt)))), ow (OK.mk (z8 : List (Tt × Bool))), vl (x4 : Tt), .dead, .dead]) (xp1_eq (xp_dput d 4 rfl rfl (.inl rfl) (xe_var d.toCok 5 rfl rfl (.inl rfl)) xe_bl) rfl) (fun z8 => (xb_end [(5, false)] z8 rfl))))))))) (fun s3 => (xb_pseq (sto1 := fun (z9 : (List Tt)) => [ow (WS.w1 z9), ow (OL.mk (a.1 : (List Tt))), ow (OL.mk (a.2.1 : (List Tt))), ow (OL.mk (a.2.2.1 : (List (Tt × Tt)))), ow (OK.mk (s3 : List (Tt × Bool))), .dead, .dead, .dead]) (xp_oP d T.wb 0 (xe_eq (xe_ofN (xn_listOf d.toCok (xr_own d.toCok 1 rfl rfl (.inl rfl)) rfl T.b_list)) rfl) rfl rfl (.inl rfl)) (fun z9 => (xb_pseq (sto1 := fun (z10 : (List Tt)) => [ow (WS.w2 z9 z10), ow (OL.mk (a.1 : (List Tt))), ow (OL.mk (a.2.1 : (List Tt))), ow (OL.mk (a.2.2.1 : (List (Tt × Tt)))), ow (OK.mk (s3 : List (Tt × Bool))), .dead, .dead, .dead]) (xp_oG d T.wb 0 (xe_eq (xe_ofN (xn_sortT d.toCok (xr_own d.toCok 2 rfl rfl (.inl rfl)) rfl T.b_sorted)) rfl) rfl rfl (.inl rfl)) (fun z10 => (xb_pseq (sto1 := fun _ => [ow (WS.w3 z9 z10 []), ow (OL.mk (a.1 : (List Tt))), ow (OL.mk (a.2.1 : (List Tt))), ow (OL.mk (a.2.2.1 : (List (Tt × Tt)))), ow (OK.mk (s3 : List (Tt × Bool))), .dead, .dead, .dead]) (xp_oS d T.wb 0 rfl rfl (.inl rfl)) (fun _ => (xb_pinC (i := 3) (xs := a.2.2.1) rfl (fun vc => (xb_seq (S1 := SU) (sto1 := (fun (s11 : SU) => [ow (WS.w3 z9 z10 s11), ow (OL.mk (a.1 : (List Tt))), ow (OL.mk (a.2.1 : (List Tt))), ow (OLc.mk (vs := vc) (a.2.2.1 : (List (Tt × Tt)))), .dead, .dead, .dead, .dead])) (xb1_pre [(4, false)] (xb_forC (vs := vc) (S := SU) (sto := (fun (s11 : SU) => [ow (WS.w3 z9 z10 s11), ow (OL.mk (a.1 : (List Tt))), ow (OL.mk (a.2.1 : (List Tt))), ow (OLc.mk (vs := vc) (a.2.2.1 : (List (Tt × Tt)))), .dead, .dead, .dead, .dead])) d 3 [] (fun _ => rfl) rfl (.inl rfl) (fun B d => xg_pair d 6 7 rfl (.inl rfl) rfl (.inl rfl)) (fun B d s11 x12 => (xb_seq (S1 := SU) (sto1 := fun z13 => [ow (WS.w3 z9 z10 z13), ow (OL.mk (a.1 : (List Tt))), ow (OL.mk (a.2.1 : (List Tt))), ow (OLc.mk (vs := vc) (a.2.2.1 : (List (Tt × Tt)))), .dead, .dead, vl (x12.1 : Tt), vl (x12.2 : Tt)]) (xb_doX (xx_eq (xx_methS d T.wb () [0, 1, 2, 3, 6, 7] 0 (c_Web__add_suit T) (by decide) rfl rfl (.inl rfl) (xa_cons (xe_var d.toCok 6 rfl rfl (.inl rfl)) (xa_cons (xe_var d.toCok 7 rfl rfl (.inl rfl)) xa_nil)) rfl (by decide)) rfl)) (fun z13 => (xb_end [(6, false), (7, false)] z13 rfl))))) rfl) (fun s11 => (xb_unC (vs := vc) (xs := a.2.2.1) (i := 3) rfl (xb_end [(0, true)] (WS.w3 z9 z10 s11) rfl))))))))))))))))))
end Sim
namespace Sim
open PySem PySem.Spec PyProof.Rows L2
abbrev s__law_cell : Stmt := top 12
theorem sc__law_cell : FnScope ["_law_script", "_law_k"] ["_law_script", "_law_k"] (defScope s__law_cell) := ⟨rfl, rfl, rfl, by decide +kernel, rfl, by decide +kernel, by decide +kernel⟩
def mb__law_cell (a : Scr × Int × Unit) : Option (Fl Empty Empty Int Unit) :=
  flb ((some (decide (a.2.1 < ((a.1).l.length : Int)))).bind fun t => if t = true then
  (atI (a.1).l a.2.1).bind fun b => some (Fl.ret b ())
 else
  (some (Fl.nx ()))) fun _ =>
  ((pmul (13 : Int) a.2.1).bind fun w2 => some (w2 + (6 : Int))).bind fun b => some (Fl.ret b ())
def m__law_cell (a : Scr × Int × Unit) : Option Int := (mb__law_cell a).bind (retP Empty.elim)
theorem c__law_cell {Γ : Gm} (T : Tx Γ) : Cal Γ "_law_cell" 1 false m__law_cell := by
  refine cal_of (k := 0) (τ := Scr × Int × Unit) T.d__law_cell sc__law_cell (S := Empty) (sto := (fun s => s.elim)) (m := mb__law_cell) Empty.elim (fun s => s.elim) rfl (fun X B a d => ?_) m__law_cell fun _ => rfl
  exact (xb_seq (S1 := Unit) (sto1 := (fun (_ : Unit) => [vl (a.1 : Scr), vl (a.2.1 : Int)])) (xb_if (S := Unit) (sto := (fun (_ : Unit) => [vl (a.1 : Scr), vl (a.2.1 : Int)])) (xt_eq (xt_ofC (xc_op2 op_lt o_lt (xe_var d.toCok 1 rfl rfl (.inl rfl)) (xe_lenScr d.toCok (xe_var d.toCok 0 rfl rfl (.inl rfl)) rfl T.b_len))) rfl) (xb_one (xb_ret (c := ()) (xe_eq (xe_intI d.toCok (xe_ixScr d.toCok (xe_var d.toCok 0 rfl rfl (.inl rfl)) (xe_var d.toCok 1 rfl rfl (.inl rfl))) rfl T.b_int) rfl) rfl [(0, false), (1, false)] rfl rfl)) (xb_end [] () rfl)) (fun _ => (xb_one (xb_ret (c := ()) (xe_eq (xe_op2 op_add o_add (xe_op2 op_mul o_mul xe_int (xe_var d.toCok 1 rfl rfl (.inl rfl))) xe_int) rfl) rfl [(0, false), (1, false)] rfl rfl))))
abbrev s__law_words : Stmt := top 13
theorem sc__law_words : FnScope ["_law_cell_here", "_law_count", "_law_letters", "_law_base", "_law_k", "_law_at", "_law_start", "_law_words_here", "_law_turned_here"] ["_law_cell_here", "_law_count"] (defScope s__law_words) := ⟨rfl, rfl, rfl, by decide +kernel, rfl, by decide +kernel, by decide +kernel⟩
def mb__law_words (a : Int × Int × Unit) : Option (Fl Empty Empty (List Tt) Unit) :=
  (some (Tt.mk "abcdefghijklmnopqrstuvwxyz" (by decide +kernel))).bind fun (z1 : Tt) =>
  (some (Tt.mk "" (by decide +kernel))).bind fun (z2 : Tt) =>
  (((pmod a.1 (12 : Int)).bind fun w3 => prange 0 w3).bind fun xs => forP (fun (s4 : Tt) (x5 : Int) =>
  ((((((pdiv a.1 ((12 : Int) + x5)).bind fun w7 => (pmul (5 : Int) x5).bind fun w8 => some (w7 + w8)).bind fun w9 => pmod w9 (26 : Int)).bind fun w10 => atS z1 w10).bind fun w11 => some (chS w11)).bind fun w12 => sadd s4 w12).bind fun (z6 : Tt) =>
  (some z6)) z2 xs).bind fun (s4 : Tt) =>
  ((pdiv a.1 (7 : Int)).bind fun w15 => ((slen s4).bind fun w14 => some (w14 + (1 : Int))).bind fun w16 => pmod w15 w16).bind fun (z13 : Int) =>
  ((pdiv a.1 (100 : Int)).bind fun w18 => pmod w18 (26 : Int)).bind fun (z17 : Int) =>
  ((prange 0 a.2.1).bind fun w27 => lcB (fun (x20 : Int) => (some true)) (fun (x20 : Int) => (((scut s4 none (some z13)).bind fun w23 => (((pmod (z17 + x20) (26 : Int)).bind fun w21 => atS z1 w21).bind fun w22 => some (chS w22)).bind fun w24 => sadd w23 w24).bind fun w25 => (scut s4 (some z13) none).bind fun w26 => sadd w25 w26)) w27).bind fun (z19 : (List Tt)) =>
  ((((pdiv a.1 (5 : Int)).bind fun w28 => pmod w28 (3 : Int)).bind fun w29 => some (decide (w29 = (0 : Int)))).bind fun t => if t = true then
  (some ([] : (List Tt))).bind fun (z31 : (List Tt)) =>
  ((prange 0 a.2.1).bind fun xs => forP (fun (s32 : (List Tt)) (x33 : Int) =>
  ((((((atS z1 z17).bind fun w35 => some (chS w35)).bind fun w36 => ((pdiv x33 (2 : Int)).bind fun w34 => some ((1 : Int) + w34)).bind fun w37 => srep w36 w37).bind fun w42 => ((((pmod ((z17 + (1 : Int)) + x33) (26 : Int)).bind fun w38 => atS z1 w38).bind fun w39 => some (chS w39)).bind fun w40 => (pmod x33 (2 : Int)).bind fun w41 => srep w40 w41).bind fun w43 => sadd w42 w43).bind fun w44 => scut w44 none (some (12 : Int))).bind fun w46 => push s32 w46).bind fun (z45 : (List Tt)) =>
  (some z45)) z31 xs).bind fun (s32 : (List Tt)) =>
  (some s32)
 else
  (some z19)).bind fun (s30 : (List Tt)) =>
  (some ([] : (List Tt))).bind fun (z47 : (List Tt)) =>
  ((prange 0 a.2.1).bind fun xs => forP (fun (s48 : (List Tt) × (List Tt)) (x49 : Int) =>
  ((((((pmul (2 : Int) x49).bind fun w50 => some ((3 : Int) + w50)).bind fun w51 => pdiv a.1 w51).bind fun w52 => pmod w52 ((s48.1).length : Int)).bind fun w53 => ppopAt s48.1 w53).bind fun q => (push s48.2 q.1).bind fun ys => some (q.2, ys)).bind fun (z54 : ((List Tt) × (List Tt))) =>
  (some (z54.1, z54.2))) (s30, z47) xs).bind fun (s48 : (List Tt) × (List Tt)) =>
  (some s48.2).bind fun b => some (Fl.ret b ())
def m__law_words (a : Int × Int × Unit) : Option (List Tt) := (mb__law_words a).bind (retP Empty.elim)
theorem c__law_words {Γ : Gm} (T : Tx Γ) : Cal Γ "_law_words" 1 false m__law_words := by
  refine cal_of (k := 0) (τ := Int × Int × Unit) T.d__law_words sc__law_words (S := Empty) (sto := (fun s => s.elim)) (m := mb__law_words) Empty.elim (fun s => s.elim) rfl (fun X B a d => ?_) m__law_words fun _ => rfl
  exact (xb_pseq (sto1 := fun (z1 : Tt) => [vl (a.1 : Int), vl (a.2.1 : Int), vl (z1 : Tt), .dead, .dead, .dead, .dead, .dead, .dead]) (xp_set d 2 (xe_eq xe_str rfl) rfl (.inr rfl)) (fun z1 => (xb_pseq (sto1 := fun (z2 : Tt) => [vl (a.1 : Int), vl (a.2.1 : Int), vl (z1 : Tt), vl (z2 : Tt), .dead, .dead, .dead, .dead, .dead]) (xp_set d 3 (xe_eq xe_str rfl) rfl (.inr rfl)) (fun z2 => (xb_pseq (S1 := Tt) (sto1 := (fun (s4 : Tt) => [vl (a.1 : Int), vl (a.2.1 : Int), vl (z1 : Tt), vl (s4 : Tt), .dead, .dead, .dead, .dead, .dead])) (xp_for (S := Tt) (sto := (fun (s4 : Tt) => [vl (a.1 : Int), vl (a.2.1 : Int), vl (z1 : Tt), vl (s4 : Tt), .dead, .dead, .dead, .dead, .dead])) d z2 (xi_eq (xi_range1 d.toCok (xe_op2 op_mod o_mod (xe_intI d.toCok (xe_var d.toCok 0 rfl rfl (.inl rfl)) rfl T.b_int) xe_int) rfl T.b_range) rfl) (fun B d => xg_name d 4 rfl (.inl rfl)) (fun B d s4 x5 => (xp_seq (sto1 := fun (z6 : Tt) => [vl (a.1 : Int), vl (a.2.1 : Int), vl (z1 : Tt), vl (z6 : Tt), vl (x5 : Int), .dead, .dead, .dead, .dead]) (xp_set d 3 (xe_eq (xe_op2 op_add_str o_addS (xe_var d.toCok 3 rfl rfl (.inr (.inl rfl))) (xe_chS (xe_ixS (xe_var d.toCok 2 rfl rfl (.inr (.inl rfl))) (xe_op2 op_mod o_mod (xe_op2 op_add o_add (xe_op2 op_fdiv o_div (xe_intI d.toCok (xe_var d.toCok 0 rfl rfl (.inl rfl)) rfl T.b_int) (xe_op2 op_add o_add xe_int (xe_var d.toCok 4 rfl rfl (.inl rfl)))) (xe_op2 op_mul o_mul xe_int (xe_var d.toCok 4 rfl rfl (.inl rfl)))) xe_int)))) rfl) rfl (.inr rfl)) (fun z6 => (xp_end [(4, false)] z6 rfl))))) (fun s4 => (xb_pseq (sto1 := fun (z13 : Int) => [vl (a.1 : Int), vl (a.2.1 : Int), vl (z1 : Tt), vl (s4 : Tt), .dead, vl (z13 : Int), .dead, .dead, .dead]) (xp_set d 5 (xe_eq (xe_op2 op_mod o_mod (xe_op2 op_fdiv o_div (xe_intI d.toCok (xe_var d.toCok 0 rfl rfl (.inl rfl)) rfl T.b_int) xe_int) (xe_op2 op_add o_add (xe_lenS d.toCok (xe_var d.toCok 3 rfl rfl (.inr (.inl rfl))) rfl T.b_len) xe_int)) rfl) rfl (.inr rfl)) (fun z13 => (xb_pseq (sto1 := fun (z17 : Int) => [vl (a.1 : Int), vl (a.2.1 : Int), vl (z1 : Tt), vl (s4 : Tt), .dead, vl (z13 : Int), vl (z17 : Int), .dead, .dead]) (xp_set d 6 (xe_eq (xe_op2 op_mod o_mod (xe_op2 op_fdiv o_div (xe_intI d.toCok (xe_var d.toCok 0 rfl rfl (.inl rfl)) rfl T.b_int) xe_int) xe_int) rfl) rfl (.inr rfl)) (fun z17 => (xb_pseq (sto1 := fun (z19 : (List Tt)) => [vl (a.1 : Int), vl (a.2.1 : Int), vl (z1 : Tt), vl (s4 : Tt), .dead, vl (z13 : Int), vl (z17 : Int), ow (OL.mk (z19 : (List Tt))), .dead]) (xp1_eq (xp_setLcN d (j := 7) rfl rfl rfl (t := fun (x20 : Int) => (some true)) (f := fun (x20 : Int) => (((scut s4 none (some z13)).bind fun w23 => (((pmod (z17 + x20) (26 : Int)).bind fun w21 => atS z1 w21).bind fun w22 => some (chS w22)).bind fun w24 => sadd w23 w24).bind fun w25 => (scut s4 (some z13) none).bind fun w26 => sadd w25 w26)) (i := 4) (xi_eq (xi_range1 d.toCok (xe_var d.toCok 1 rfl rfl (.inl rfl)) rfl T.b_range) rfl) rfl rfl rfl rfl rfl (fun X c a => xts_nil (fun _ => _) a) (fun X c x20 => (xe_eq (xe_op2 op_add_str o_addS (xe_op2 op_add_str o_addS (xe_sliceS (xe_var c 3 rfl rfl (.inr (.inl rfl))) xo_none (xo_some (xe_var c 5 rfl rfl (.inr (.inl rfl))))) (xe_chS (xe_ixS (xe_var c 2 rfl rfl (.inr (.inl rfl))) (xe_op2 op_mod o_mod (xe_op2 op_add o_add (xe_var c 6 rfl rfl (.inr (.inl rfl))) (xe_var c 4 rfl rfl (.inl rfl))) xe_int)))) (xe_sliceS (xe_var c 3 rfl rfl (.inr (.inl rfl))) (xo_some (xe_var c 5 rfl rfl (.inr (.inl rfl)))) xo_none)) rfl))) rfl) (fun z19 => (xb_pseq (S1 := (List Tt)) (sto1 := (fun (s30 : (List Tt)) => [vl (a.1 : Int), vl (a.2.1 : Int), vl (z1 : Tt), .dead, .dead, .dead, vl (z17 : Int), ow (OL.mk (s30 : (List Tt))), .dead])) (xp_if (S := (List Tt)) (sto := (fun (s30 : (List Tt)) => [vl (a.1 : Int), vl (a.2.1 : Int), vl (z1 : Tt), .dead, .dead, .dead, vl (z17 : Int), ow (OL.mk (s30 : (List Tt))), .dead])) (xt_eq (xt_ofC (xc_op2 op_eq o_eqI (xe_op2 op_mod o_mod (xe_op2 op_fdiv o_div (xe_intI d.toCok (xe_var d.toCok 0 rfl rfl (.inl rfl)) rfl T.b_int) xe_int) xe_int) xe_int)) rfl) (xp_seq (sto1 := fun (z31 : (List Tt)) => [vl (a.1 : Int), vl (a.2.1 : Int), vl (z1 : Tt), vl (s4 : Tt), .dead, vl (z13 : Int), vl (z17 : Int), ow (OL.mk (z31 : (List Tt))), .dead]) (xp_setN d 7 (xn_eq (xn_list (α := Tt) xl_nil) rfl) rfl (.inl rfl)) (fun z31 => (xp_seq (S1 := (List Tt)) (sto1 := (fun (s32 : (List Tt)) => [vl (a.1 : Int), vl (a.2.1 : Int), vl (z1 : Tt), .dead, .dead, .dead, vl (z17 : Int), ow (OL.mk (s32 : (List Tt))), .dead])) (xp1_pre [(3, false), (5, false)] (xp_for (S := (List Tt)) (sto := (fun (s32 : (List Tt)) => [vl (a.1 : Int), vl (a.2.1 : Int), vl (z1 : Tt), .dead, .dead, .dead, vl (z17 : Int), ow (OL.mk (s32 : (List Tt))), .dead])) d z31 (xi_eq (xi_range1 d.toCok (xe_var d.toCok 1 rfl rfl (.inl rfl)) rfl T.b_range) rfl) (fun B d => xg_name d 4 rfl (.inl rfl)) (fun B d s32 x33 => (xp_seq (sto1 := fun (z45 : (List Tt)) => [vl (a.1 : Int), vl (a.2.1 : Int), vl (z1 : Tt), .dead, vl (x33 : Int), .dead, vl (z17 : Int), ow (OL.mk (z45 : (List Tt))), .dead]) (xp1_eq (xp_append d 7 rfl rfl (.inl rfl) (xe_sliceS (xe_op2 op_add_str o_addS (xe_op2 op_repS o_repS (xe_chS (xe_ixS (xe_var d.toCok 2 rfl rfl (.inr (.inl rfl))) (xe_var d.toCok 6 rfl rfl (.inr (.inl rfl))))) (xe_op2 op_add o_add xe_int (xe_op2 op_fdiv o_div (xe_var d.toCok 4 rfl rfl (.inl rfl)) xe_int))) (xe_op2 op_repS o_repS (xe_chS (xe_ixS (xe_var d.toCok 2 rfl rfl (.inr (.inl rfl))) (xe_op2 op_mod o_mod (xe_op2 op_add o_add (xe_op2 op_add o_add (xe_var d.toCok 6 rfl rfl (.inr (.inl rfl))) xe_int) (xe_var d.toCok 4 rfl rfl (.inl rfl))) xe_int))) (xe_op2 op_mod o_mod (xe_var d.toCok 4 rfl rfl (.inl rfl)) xe_int))) xo_none (xo_some xe_int))) rfl) (fun z45 => (xp_end [(4, false)] z45 rfl))))) rfl) (fun s32 => (xp_end [] s32 rfl))))) (xp_end [(3, false), (5, false)] z19 rfl)) (fun s30 => (xb_pseq (sto1 := fun (z47 : (List Tt)) => [vl (a.1 : Int), vl (a.2.1 : Int), vl (z1 : Tt), .dead, .dead, .dead, vl (z17 : Int), ow (OL.mk (s30 : (List Tt))), ow (OL.mk (z47 : (List Tt)))]) (xp_setN d 8 (xn_eq (xn_list (α := Tt) xl_nil) rfl) rfl (.inl rfl)) (fun z47 => (xb_pseq (S1 := (List Tt) × (List Tt)) (sto1 := (fun (s48 : (List Tt) × (List Tt)) => [vl (a.1 : Int), vl (a.2.1 : Int), .dead, .dead, .dead, .dead, .dead, ow (OL.mk (s48.1 : (List Tt))), ow (OL.mk (s48.2 : (List Tt)))])) (xp1_pre [(2, false), (6, false)] (xp_for (S := (List Tt) × (List Tt)) (sto := (fun (s48 : (List Tt) × (List Tt)) => [vl (a.1 : Int), vl (a.2.1 : Int), .dead, .dead, .dead, .dead, .dead, ow (OL.mk (s48.1 : (List Tt))), ow (OL.mk (s48.2 : (List Tt)))])) d (s30, z47) (xi_eq (xi_range1 d.toCok (xe_var d.toCok 1 rfl rfl (.inl rfl)) rfl T.b_range) rfl) (fun B d => xg_name d 4 rfl (.inl rfl)) (fun B d s48 x49 => (xp_seq (sto1 := fun (z54 : ((List Tt) × (List Tt))) => [vl (a.1 : Int), vl (a.2.1 : Int), .dead, .dead, vl (x49 : Int), .dead, .dead, ow (OL.mk (z54.1 : (List Tt))), ow (OL.mk (z54.2 : (List Tt)))]) (xp_appF d 8 (us := fun (_ : (List Tt)) => s48.2) (sto := fun (s : (List Tt)) => [vl (a.1 : Int), vl (a.2.1 : Int), .dead, .dead, vl (x49 : Int), .dead, .dead, ow (OL.mk (s : (List Tt))), ow (OL.mk (s48.2 : (List Tt)))]) (xf_eq (xf_popAt d.toCok 7 rfl rfl (.inl rfl) (xe_op2 op_mod o_mod (xe_op2 op_fdiv o_div (xe_intI d.toCok (xe_var d.toCok 0 rfl rfl (.inl rfl)) rfl T.b_int) (xe_op2 op_add o_add xe_int (xe_op2 op_mul o_mul xe_int (xe_var d.toCok 4 rfl rfl (.inl rfl))))) (xe_lenR d.toCok (xr_own d.toCok 7 rfl rfl (.inl rfl)) rfl T.b_len))) rfl) rfl (fun _ => rfl) rfl (.inl rfl)) (fun z54 => (xp_end [(4, false)] (z54.1, z54.2) rfl))))) rfl) (fun s48 => (xb_one (xb1_pre [(8, true)] (xb_ret (c := ()) (xe_eq (xe_var d.toCok 8 rfl rfl (.inl rfl)) rfl) rfl [(0, false), (1, false), (7, false), (8, false)] rfl rfl) rfl))))))))))))))))))))
abbrev s__law_web : Stmt := top 14
theorem sc__law_web : FnScope ["_law_script", "_law_most", "_law_count", "_law_alone", "_law_words_here", "_law_pairs", "_law_givers", "_law_dense", "_law_suits", "_law_a", "_law_b", "_law_cell_here", "_law_row"] ["_law_script", "_law_most"] (defScope s__law_web) := ⟨rfl, rfl, rfl, by decide +kernel, rfl, by decide +kernel, by decide +kernel⟩
def mb__law_web (a : Scr × Int × Unit) : Option (Fl Empty Empty (R3 (List Tt) (List Tt) (List (Tt × Tt))) Unit) :=
  (((b2 (some a.1) (b2 (some (0 : Int)) (some ()) fun x t => some (x, t)) fun x t => some (x, t)).bind m__law_cell).bind fun w2 => pmod w2 (a.2.1 + (1 : Int))).bind fun (z1 : Int) =>
  (((((b2 (some a.1) (b2 (some (0 : Int)) (some ()) fun x t => some (x, t)) fun x t => some (x, t)).bind m__law_cell).bind fun w4 => pdiv w4 (20 : Int)).bind fun w5 => pmod w5 (4 : Int)).bind fun w6 => some (minI w6 z1)).bind fun (z3 : Int) =>
  ((((((b2 (some a.1) (b2 (some (0 : Int)) (some ()) fun x t => some (x, t)) fun x t => some (x, t)).bind m__law_cell).bind fun w7 => pdiv w7 (320 : Int)).bind fun w8 => pmod w8 (3 : Int)).bind fun w9 => some (decide (w9 = (0 : Int)))).bind fun t => if t = true then
  ((((b2 (some a.1) (b2 (some (0 : Int)) (some ()) fun x t => some (x, t)) fun x t => some (x, t)).bind m__law_cell).bind fun w12 => pdiv w12 (20 : Int)).bind fun w13 => pmod w13 (z1 + (1 : Int))).bind fun (z11 : Int) =>
  (some z11)
 else
  (some z3)).bind fun (s10 : Int) =>
  ((b2 ((b2 (some a.1) (b2 (some (1 : Int)) (some ()) fun x t => some (x, t)) fun x t => some (x, t)).bind m__law_cell) (b2 (some z1) (some ()) fun x t => some (x, t)) fun x t => some (x, t)).bind m__law_words).bind fun (z14 : (List Tt)) =>
  (some (cut z14 none (some (z1 - s10)))).bind fun (z15 : (List Tt)) =>
  (some (cut z14 (some (z1 - s10)) none)).bind fun (z16 : (List Tt)) =>
  (((((b2 (some a.1) (b2 (some (0 : Int)) (some ()) fun x t => some (x, t)) fun x t => some (x, t)).bind m__law_cell).bind fun w18 => pdiv w18 (80 : Int)).bind fun w19 => pmod w19 (4 : Int)).bind fun w20 => some ((2 : Int) + w20)).bind fun (z17 : Int) =>
  (some ([] : (List (Tt × Tt)))).bind fun (z21 : (List (Tt × Tt))) =>
  ((prange 0 z1).bind fun xs => forP (fun (s22 : (List (Tt × Tt))) (x23 : Int) =>
  ((prange (x23 + (1 : Int)) z1).bind fun xs => forP (fun (s24 : (List (Tt × Tt))) (x25 : Int) =>
  (((b2 (some a.1) (b2 ((((pmul x23 (16 : Int)).bind fun w27 => some (w27 + x25)).bind fun w28 => pmod w28 (44 : Int)).bind fun w29 => some ((2 : Int) + w29)) (some ()) fun x t => some (x, t)) fun x t => some (x, t)).bind m__law_cell).bind fun w31 => ((pmod (x23 + x25) (5 : Int)).bind fun w30 => some ((1 : Int) + w30)).bind fun w32 => pdiv w31 w32).bind fun (z26 : Int) =>
  (((pmod z26 z17).bind fun w33 => some (decide (w33 = (0 : Int)))).bind fun t => if t = true then
  (((atI z14 x23).bind fun w35 => (atI z14 x25).bind fun w36 => some (w35, w36)).bind fun w38 => push s24 w38).bind fun (z37 : (List (Tt × Tt))) =>
  (((atI z14 x25).bind fun w39 => (atI z14 x23).bind fun w40 => some (w39, w40)).bind fun w42 => push z37 w42).bind fun (z41 : (List (Tt × Tt))) =>
  (some z41)
 else
  (((pmod z26 z17).bind fun w43 => some (decide (w43 = (1 : Int)))).bind fun t => if t = true then
  (((seqO [((atI z14 x23).bind fun w45 => (atI z14 x25).bind fun w46 => some (w45, w46)), ((atI z14 x25).bind fun w47 => (atI z14 x23).bind fun w48 => some (w47, w48))]).bind fun w50 => ((pdiv z26 z17).bind fun w49 => pmod w49 (2 : Int)).bind fun w51 => atI w50 w51).bind fun w53 => push s24 w53).bind fun (z52 : (List (Tt × Tt))) =>
  (some z52)
 else
  (some s24)).bind fun (s44 : (List (Tt × Tt))) =>
  (some s44)).bind fun (s34 : (List (Tt × Tt))) =>
  (some s34)) s22 xs).bind fun (s24 : (List (Tt × Tt))) =>
  (some s24)) z21 xs).bind fun (s22 : (List (Tt × Tt))) =>
  (lcB (fun (x55 : (Tt × Tt)) => (some (isIn (x55).2 z15))) (fun (x55 : (Tt × Tt)) => (some x55)) s22).bind fun (z54 : (List (Tt × Tt))) =>
  (some (R3.mk z15 z16 z54)).bind fun b => some (Fl.ret b ())
def m__law_web (a : Scr × Int × Unit) : Option (R3 (List Tt) (List Tt) (List (Tt × Tt))) := (mb__law_web a).bind (retP Empty.elim)
theorem c__law_web {Γ : Gm} (T : Tx Γ) : Cal Γ "_law_web" 2 false m__law_web := by
  refine cal_of (k := 1) (τ := Scr × Int × Unit) T.d__law_web sc__law_web (S := Empty) (sto := (fun s => s.elim)) (m := mb__law_web) Empty.elim (fun s => s.elim) rfl (fun X B a d => ?_) m__law_web fun _ => rfl
  exact (xb_pseq (sto1 := fun (z1 : Int) => [vl (a.1 : Scr), vl (a.2.1 : Int), vl (z1 : Int), .dead, .dead, .dead, .dead, .dead, .dead, .dead, .dead, .dead, .dead]) (xp_set d 2 (xe_eq (xe_op2 op_mod o_mod (xe_call d.toCok (c__law_cell T) (by decide) rfl (xa_cons (xe_var d.toCok 0 rfl rfl (.inl rfl)) (xa_cons xe_int xa_nil))) (xe_op2 op_add o_add (xe_var d.toCok 1 rfl rfl (.inl rfl)) xe_int)) rfl) rfl (.inl rfl)) (fun z1 => (xb_pseq (sto1 := fun (z3 : Int) => [vl (a.1 : Scr), vl (a.2.1 : Int), vl (z1 : Int), vl (z3 : Int), .dead, .dead, .dead, .dead, .dead, .dead, .dead, .dead, .dead]) (xp_set d 3 (xe_eq (xe_min2 d.toCok (xe_op2 op_mod o_mod (xe_op2 op_fdiv o_div (xe_call d.toCok (c__law_cell T) (by decide) rfl (xa_cons (xe_var d.toCok 0 rfl rfl (.inl rfl)) (xa_cons xe_int xa_nil))) xe_int) xe_int) (xe_var d.toCok 2 rfl rfl (.inl rfl)) rfl T.b_min) rfl) rfl (.inl rfl)) (fun z3 => (xb_pseq (S1 := Int) (sto1 := (fun (s10 : Int) => [vl (a.1 : Scr), vl (a.2.1 : Int), vl (z1 : Int), vl (s10 : Int), .dead, .dead, .dead, .dead, .dead, .dead, .dead, .dead, .dead])) (xp_if (S := Int) (sto := (fun (s10 : Int) => [vl (a.1 : Scr), vl (a.2.1 : Int), vl (z1 : Int), vl (s10 : Int), .dead, .dead, .dead, .dead, .dead, .dead, .dead, .dead, .dead])) (xt_eq (xt_ofC (xc_op2 op_eq o_eqI (xe_op2 op_mod o_mod (xe_op2 op_fdiv o_div (xe_call d.toCok (c__law_cell T) (by decide) rfl (xa_cons (xe_var d.toCok 0 rfl rfl (.inl rfl)) (xa_cons xe_int xa_nil))) xe_int) xe_int) xe_int)) rfl) (xp_seq (sto1 := fun (z11 : Int) => [vl (a.1 : Scr), vl (a.2.1 : Int), vl (z1 : Int), vl (z11 : Int), .dead, .dead, .dead, .dead, .dead, .dead, .dead, .dead, .dead]) (xp_set d 3 (xe_eq (xe_op2 op_mod o_mod (xe_op2 op_fdiv o_div (xe_call d.toCok (c__law_cell T) (by decide) rfl (xa_cons (xe_var d.toCok 0 rfl rfl (.inl rfl)) (xa_cons xe_int xa_nil))) xe_int) (xe_op2 op_add o_add (xe_var d.toCok 2 rfl rfl (.inl rfl)) xe_int)) rfl) rfl (.inl rfl)) (fun z11 => (xp_end [] z11 rfl))) (xp_end [] z3 rfl)) (fun s10 => (xb_pseq (sto1 := fun (z14 : (List Tt)) => [vl (a.1 : Scr), vl (a.2.1 : Int), vl (z1 : Int), vl (s10 : Int), vl (z14 : (List Tt)), .dead, .dead, .dead, .dead, .dead, .dead, .dead, .dead]) (xp_set d 4 (xe_eq (xe_call d.toCok (c__law_words T) (by decide) rfl (xa_cons (xe_call d.toCok (c__law_cell T) (by decide) rfl (xa_cons (xe_var d.toCok 0 rfl rfl (.inl rfl)) (xa_cons xe_int xa_nil))) (xa_cons (xe_var d.toCok 2 rfl rfl (.inl rfl)) xa_nil))) rfl) rfl (.inl rfl)) (fun z14 => (xb_pseq (sto1 := fun (z15 : (List Tt)) => [vl (a.1 : Scr), vl (a.2.1 : Int), vl (z1 : Int), vl (s10 : Int), vl (z14 : (List Tt)), vl (z15 : (List Tt)), .dead, .dead, .dead, .dead, .dead, .dead, .dead]) (xp_set d 5 (xe_eq (xe_ofN (xn_slice (xr_of (xe_var d.toCok 4 rfl rfl (.inl rfl))) xo_none (xo_some (xe_op2 op_sub o_sub (xe_var d.toCok 2 rfl rfl (.inl rfl)) (xe_var d.toCok 3 rfl rfl (.inl rfl)))))) rfl) rfl (.inr rfl)) (fun z15 => (xb_pseq (sto1 := fun (z16 : (List Tt)) => [vl (a.1 : Scr), vl (a.2.1 : Int), vl (z1 : Int), vl (s10 : Int), vl (z14 : (List Tt)), vl (z15 : (List Tt)), vl (z16 : (List Tt)), .dead, .dead, .dead, .dead, .dead, .dead]) (xp_set d 6 (xe_eq (xe_ofN (xn_slice (xr_of (xe_var d.toCok 4 rfl rfl (.inl rfl))) (xo_some (xe_op2 op_sub o_sub (xe_var d.toCok 2 rfl rfl (.inl rfl)) (xe_var d.toCok 3 rfl rfl (.inl rfl)))) xo_none)) rfl) rfl (.inl rfl)) (fun z16 => (xb_pseq (sto1 := fun (z17 : Int) => [vl (a.1 : Scr), vl (a.2.1 : Int), vl (z1 : Int), vl (s10 : Int), vl (z14 : (List Tt)), vl (z15 : (List Tt)), vl (z16 : (List Tt)), vl (z17 : Int), .dead, .dead, .dead, .dead, .dead]) (xp_set d 7 (xe_eq (xe_op2 op_add o_add xe_int (xe_op2 op_mod o_mod (xe_op2 op_fdiv o_div (xe_call d.toCok (c__law_cell T) (by decide) rfl (xa_cons (xe_var d.toCok 0 rfl rfl (.inl rfl)) (xa_cons xe_int xa_nil))) xe_int) xe_int)) rfl) rfl (.inl rfl)) (fun z17 => (xb_pseq (sto1 := fun (z21 : (List (Tt × Tt))) => [vl (a.1 : Scr), vl (a.2.1 : Int), vl (z1 : Int), vl (s10 : Int), vl (z14 : (List Tt)), vl (z15 : (List Tt)), vl (z16 : (List Tt)), vl (z17 : Int), ow (OL.mk (z21 : (List (Tt × Tt)))), .dead, .dead, .dead, .dead]) (xp_setN d 8 (xn_eq (xn_list (α := (Tt × Tt)) xl_nil) rfl) rfl (.inl rfl)) (fun z21 => (xb_pseq (S1 := (List (Tt × Tt))) (sto1 := (fun (s22 : (List (Tt × Tt))) => [vl (a.1 : Scr), .dead, vl (z1 : Int), .dead, vl (z14 : (List Tt)), vl (z15 : (List Tt)), vl (z16 : (List Tt)), vl (z17 : Int), ow (OL.mk (s22 : (List (Tt × Tt)))), .dead, .dead, .dead, .dead])) (xp1_pre [(1, false), (3, false)] (xp_for (S := (List (Tt × Tt))) (sto := (fun (s22 : (List (Tt × Tt))) => [vl (a.1 : Scr), .dead, vl (z1 : Int), .dead, vl (z14 : (List Tt)), vl (z15 : (List Tt)), vl (z16 : (List Tt)), vl (z17 : Int), ow (OL.mk (s22 : (List (Tt × Tt)))), .dead, .dead, .dead, .dead])) d z21 (xi_eq (xi_range1 d.toCok (xe_var d.toCok 2 rfl rfl (.inl rfl)) rfl T.b_range) rfl) (fun B d => xg_name d 9 rfl (.inl rfl)) (fun B d s22 x23 => (xp_seq (S1 := (List (Tt × Tt))) (sto1 := (fun (s24 : (List (Tt × Tt))) => [vl (a.1 : Scr), .dead, vl (z1 : Int), .dead, vl (z14 : (List Tt)), vl (z15 : (List Tt)), vl (z16 : (List Tt)), vl (z17 : Int), ow (OL.mk (s24 : (List (Tt × Tt)))), vl (x23 : Int), .dead, .dead, .dead])) (xp_for (S := (List (Tt × Tt))) (sto := (fun (s24 : (List (Tt × Tt))) => [vl (a.1 : Scr), .dead, vl (z1 : Int), .dead, vl (z14 : (List Tt)), vl (z15 : (List Tt)), vl (z16 : (List Tt)), vl (z17 : Int), ow (OL.mk (s24 : (List (Tt × Tt)))), vl (x23 : Int), .dead, .dead, .dead])) d s22 (xi_eq (xi_range2 d.toCok (xe_op2 op_add o_add (xe_var d.toCok 9 rfl rfl (.inl rfl)) xe_int) (xe_var d.toCok 2 rfl rfl (.inl rfl)) rfl T.b_range) rfl) (fun B d => xg_name d 10 rfl (.inl rfl)) (fun B d s24 x25 => (xp_seq (sto1 := fun (z26 : Int) => [vl (a.1 : Scr), .dead, vl (z1 : Int), .dead, vl (z14 : (List Tt)), vl (z15 : (List Tt)), vl (z16 : (List Tt)), vl (z17 : Int), ow (OL.mk (s24 : (List (Tt × Tt)))), vl (x23 : Int), vl (x25 : Int), vl (z26 : Int), .dead]) (xp_set d 11 (xe_eq (xe_op2 op_fdiv o_div (xe_call d.toCok (c__law_cell T) (by decide) rfl (xa_cons (xe_var d.toCok 0 rfl rfl (.inl rfl)) (xa_cons (xe_op2 op_add o_add xe_int (xe_op2 op_mod o_mod (xe_op2 op_add o_add (xe_op2 op_mul o_mul (xe_var d.toCok 9 rfl rfl (.inl rfl)) xe_int) (xe_var d.toCok 10 rfl rfl (.inl rfl))) xe_int)) xa_nil))) (xe_op2 op_add o_add xe_int (xe_op2 op_mod o_mod (xe_op2 op_add o_add (xe_var d.toCok 9 rfl rfl (.inl rfl)) (xe_var d.toCok 10 rfl rfl (.inl rfl))) xe_int))) rfl) rfl (.inl rfl)) (fun z26 => (xp_seq (S1 := (List (Tt × Tt))) (sto1 := (fun (s34 : (List (Tt × Tt))) => [vl (a.1 : Scr), .dead, vl (z1 : Int), .dead, vl (z14 : (List Tt)), vl (z15 : (List Tt)), vl (z16 : (List Tt)), vl (z17 : Int), ow (OL.mk (s34 : (List (Tt × Tt)))), vl (x23 : Int), vl (x25 : Int), vl (z26 : Int), .dead])) (xp_if (S := (List (Tt × Tt))) (sto := (fun (s34 : (List (Tt × Tt))) => [vl (a.1 : Scr), .dead, vl (z1 : Int), .dead, vl (z14 : (List Tt)), vl (z15 : (List Tt)), vl (z16 : (List Tt)), vl (z17 : Int), ow (OL.mk (s34 : (List (Tt × Tt)))), vl (x23 : Int), vl (x25 : Int), vl (z26 : Int), .dead])) (xt_eq (xt_ofC (xc_op2 op_eq o_eqI (xe_op2 op_mod o_mod (xe_var d.toCok 11 rfl rfl (.inl rfl)) (xe_var d.toCok 7 rfl rfl (.inl rfl))) xe_int)) rfl) (xp_seq (sto1 := fun (z37 : (List (Tt × Tt))) => [vl (a.1 : Scr), .dead, vl (z1 : Int), .dead, vl (z14 : (List Tt)), vl (z15 : (List Tt)), vl (z16 : (List Tt)), vl (z17 : Int), ow (OL.mk (z37 : (List (Tt × Tt)))), vl (x23 : Int), vl (x25 : Int), vl (z26 : Int), .dead]) (xp1_eq (xp_append d 8 rfl rfl (.inl rfl) (xe_tup2 (xe_ix (xr_of (xe_var d.toCok 4 rfl rfl (.inl rfl))) (xe_var d.toCok 9 rfl rfl (.inl rfl))) (xe_ix (xr_of (xe_var d.toCok 4 rfl rfl (.inl rfl))) (xe_var d.toCok 10 rfl rfl (.inl rfl))))) rfl) (fun z37 => (xp_seq (sto1 := fun (z41 : (List (Tt × Tt))) => [vl (a.1 : Scr), .dead, vl (z1 : Int), .dead, vl (z14 : (List Tt)), vl (z15 : (List Tt)), vl (z16 : (List Tt)), vl (z17 : Int), ow (OL.mk (z41 : (List (Tt × Tt)))), vl (x23 : Int), vl (x25 : Int), vl (z26 : Int), .dead]) (xp1_eq (xp_append d 8 rfl rfl (.inl rfl) (xe_tup2 (xe_ix (xr_of (xe_var d.toCok 4 rfl rfl (.inl rfl))) (xe_var d.toCok 10 rfl rfl (.inl rfl))) (xe_ix (xr_of (xe_var d.toCok 4 rfl rfl (.inl rfl))) (xe_var d.toCok 9 rfl rfl (.inl rfl))))) rfl) (fun z41 => (xp_end [] z41 rfl))))) (xp_seq (S1 := (List (Tt × Tt))) (sto1 := (fun (s44 : (List (Tt × Tt))) => [vl (a.1 : Scr), .dead, vl (z1 : Int), .dead, vl (z14 : (List Tt)), vl (z15 : (List Tt)), vl (z16 : (List Tt)), vl (z17 : Int), ow (OL.mk (s44 : (List (Tt × Tt)))), vl (x23 : Int), vl (x25 : Int), vl (z26 : Int), .dead])) (xp_if (S := (List (Tt × Tt))) (sto := (fun (s44 : (List (Tt × Tt))) => [vl (a.1 : Scr), .dead, vl (z1 : Int), .dead, vl (z14 : (List Tt)), vl (z15 : (List Tt)), vl (z16 : (List Tt)), vl (z17 : Int), ow (OL.mk (s44 : (List (Tt × Tt)))), vl (x23 : Int), vl (x25 : Int), vl (z26 : Int), .dead])) (xt_eq (xt_ofC (xc_op2 op_eq o_eqI (xe_op2 op_mod o_mod (xe_var d.toCok 11 rfl rfl (.inl rfl)) (xe_var d.toCok 7 rfl rfl (.inl rfl))) xe_int)) rfl) (xp_seq (sto1 := fun (z52 : (List (Tt × Tt))) => [vl (a.1 : Scr), .dead, vl (z1 : Int), .dead, vl (z14 : (List Tt)), vl (z15 : (List Tt)), vl (z16 : (List Tt)), vl (z17 : Int), ow (OL.mk (z52 : (List (Tt × Tt)))), vl (x23 : Int), vl (x25 : Int), vl (z26 : Int), .dead]) (xp1_eq (xp_append d 8 rfl rfl (.inl rfl) (xe_ix (xr_ofN (xn_list (xl_cons (xe_tup2 (xe_ix (xr_of (xe_var d.toCok 4 rfl rfl (.inl rfl))) (xe_var d.toCok 9 rfl rfl (.inl rfl))) (xe_ix (xr_of (xe_var d.toCok 4 rfl rfl (.inl rfl))) (xe_var d.toCok 10 rfl rfl (.inl rfl)))) (xl_cons (xe_tup2 (xe_ix (xr_of (xe_var d.toCok 4 rfl rfl (.inl rfl))) (xe_var d.toCok 10 rfl rfl (.inl rfl))) (xe_ix (xr_of (xe_var d.toCok 4 rfl rfl (.inl rfl))) (xe_var d.toCok 9 rfl rfl (.inl rfl)))) xl_nil)))) (xe_op2 op_mod o_mod (xe_op2 op_fdiv o_div (xe_var d.toCok 11 rfl rfl (.inl rfl)) (xe_var d.toCok 7 rfl rfl (.inl rfl))) xe_int))) rfl) (fun z52 => (xp_end [] z52 rfl))) (xp_end [] s24 rfl)) (fun s44 => (xp_end [] s44 rfl)))) (fun s34 => (xp_end [(10, false), (11, false)] s34 rfl))))))) (fun s24 => (xp_end [(9, false)] s24 rfl))))) rfl) (fun s22 => (xb_pre [(8, true)] (xb_pseq (sto1 := fun (z54 : (List (Tt × Tt))) => [vl (a.1 : Scr), .dead, vl (z1 : Int), .dead, vl (z14 : (List Tt)), vl (z15 : (List Tt)), vl (z16 : (List Tt)), vl (z17 : Int), ow (OL.mk (z54 : (List (Tt × Tt)))), .dead, .dead, .dead, .dead]) (xp1_eq (xp_setLcN d (j := 8) rfl rfl rfl (t := fun (x55 : (Tt × Tt)) => (some (isIn (x55).2 z15))) (f := fun (x55 : (Tt × Tt)) => (some x55)) (i := 12) (xi_eq (xi_list (xe_var d.toCok 8 rfl rfl (.inl rfl))) rfl) rfl rfl rfl rfl rfl (fun X c x55 => xts_one (xt_eq (xt_ofC (xc_in (xe_snd (xe_var c 12 rfl rfl (.inl rfl))) (xr_of (xe_var c 5 rfl rfl (.inr (.inl rfl)))))) rfl)) (fun X c x55 => (xe_eq (xe_var c 12 rfl rfl (.inl rfl)) rfl))) rfl) (fun z54 => (xb_pre [(8, true)] (xb_one (xb_ret (c := ()) (xe_eq (xe_r3 (xe_var d.toCok 5 rfl rfl (.inr (.inl rfl))) (xe_var d.toCok 6 rfl rfl (.inl rfl)) (xe_var d.toCok 8 rfl rfl (.inl rfl))) rfl) rfl [(0, false), (2, false), (4, false), (5, false), (6, false), (7, false), (8, false)] rfl rfl)) rfl))) rfl)))))))))))))))))))
abbrev s__law_meet : Stmt := top 15
theorem sc__law_meet : FnScope ["_law_web_here", "_law_one", "_law_other"] ["_law_web_here", "_law_one", "_law_other"] (defScope s__law_meet) := ⟨rfl, rfl, rfl, by decide +kernel, rfl, by decide +kernel, by decide +kernel⟩
def mb__law_meet (a : (R3 (List Tt) (List Tt) (List (Tt × Tt))) × Tt × Tt × Unit) : Option (Fl Empty Empty Bool Unit) :=
  flb ((some (isIn a.2.1 (a.1).b)).bind fun t => if t = true then
  (some (isIn (a.2.1, a.2.2.1) (a.1).c)).bind fun b => some (Fl.ret b ())
 else
  (some (Fl.nx ()))) fun _ =>
  flb ((some (isIn a.2.2.1 (a.1).b)).bind fun t => if t = true then
  (some (isIn (a.2.2.1, a.2.1) (a.1).c)).bind fun b => some (Fl.ret b ())
 else
  (some (Fl.nx ()))) fun _ =>
  ((andM (some (isIn (a.2.1, a.2.2.1) (a.1).c)) (some (isIn (a.2.2.1, a.2.1) (a.1).c)))).bind fun b => some (Fl.ret b ())
def m__law_meet (a : (R3 (List Tt) (List Tt) (List (Tt × Tt))) × Tt × Tt × Unit) : Option Bool := (mb__law_meet a).bind (retP Empty.elim)
theorem c__law_meet {Γ : Gm} (T : Tx Γ) : Cal Γ "_law_meet" 1 false m__law_meet := by
  refine cal_of (k := 0) (τ := (R3 (List Tt) (List Tt) (List (Tt × Tt))) × Tt × Tt × Unit) T.d__law_meet sc__law_meet (S := Empty) (sto := (fun s => s.elim)) (m := mb__law_meet) Empty.elim (fun s => s.elim) rfl (fun X B a d => ?_) m__law_meet fun _ => rfl
  exact (xb_seq (S1 := Unit) (sto1 := (fun (_ : Unit) => [vl (a.1 : (R3 (List Tt) (List Tt) (List (Tt × Tt)))), vl (a.2.1 : Tt), vl (a.2.2.1 : Tt)])) (xb_if (S := Unit) (sto := (fun (_ : Unit) => [vl (a.1 : (R3 (List Tt) (List Tt) (List (Tt × Tt)))), vl (a.2.1 : Tt), vl (a.2.2.1 : Tt)])) (xt_eq (xt_ofC (xc_in (xe_var d.toCok 1 rfl rfl (.inl rfl)) (xr_of (xe_r3b (xe_var d.toCok 0 rfl rfl (.inl rfl)))))) rfl) (xb_one (xb_ret (c := ()) (xe_eq (xe_ofC (xc_deepIn d.toCok (xe_tup2 (xe_var d.toCok 1 rfl rfl (.inl rfl)) (xe_var d.toCok 2 rfl rfl (.inl rfl))) (xr_of (xe_r3c (xe_var d.toCok 0 rfl rfl (.inl rfl)))))) rfl) rfl [(0, false), (1, false), (2, false)] rfl rfl)) (xb_end [] () rfl)) (fun _ => (xb_seq (S1 := Unit) (sto1 := (fun (_ : Unit) => [vl (a.1 : (R3 (List Tt) (List Tt) (List (Tt × Tt)))), vl (a.2.1 : Tt), vl (a.2.2.1 : Tt)])) (xb_if (S := Unit) (sto := (fun (_ : Unit) => [vl (a.1 : (R3 (List Tt) (List Tt) (List (Tt × Tt)))), vl (a.2.1 : Tt), vl (a.2.2.1 : Tt)])) (xt_eq (xt_ofC (xc_in (xe_var d.toCok 2 rfl rfl (.inl rfl)) (xr_of (xe_r3b (xe_var d.toCok 0 rfl rfl (.inl rfl)))))) rfl) (xb_one (xb_ret (c := ()) (xe_eq (xe_ofC (xc_deepIn d.toCok (xe_tup2 (xe_var d.toCok 2 rfl rfl (.inl rfl)) (xe_var d.toCok 1 rfl rfl (.inl rfl))) (xr_of (xe_r3c (xe_var d.toCok 0 rfl rfl (.inl rfl)))))) rfl) rfl [(0, false), (1, false), (2, false)] rfl rfl)) (xb_end [] () rfl)) (fun _ => (xb_one (xb_ret (c := ()) (xe_eq (xe_and (xe_ofC (xc_deepIn d.toCok (xe_tup2 (xe_var d.toCok 1 rfl rfl (.inl rfl)) (xe_var d.toCok 2 rfl rfl (.inl rfl))) (xr_of (xe_r3c (xe_var d.toCok 0 rfl rfl (.inl rfl)))))) (xe_and1 (xe_ofC (xc_deepIn d.toCok (xe_tup2 (xe_var d.toCok 2 rfl rfl (.inl rfl)) (xe_var d.toCok 1 rfl rfl (.inl rfl))) (xr_of (xe_r3c (xe_var d.toCok 0 rfl rfl (.inl rfl)))))))) rfl) rfl [(0, false), (1, false), (2, false)] rfl rfl))))))
end Sim
namespace Sim
open PySem PySem.Spec PyProof.Rows L2
abbrev s__law_turned : Stmt := top 21
theorem sc__law_turned : FnScope ["_law_rows", "_law_cell_here", "_law_left", "_law_turned_here", "_law_k"] ["_law_rows", "_law_cell_here"] (defScope s__law_turned) := ⟨rfl, rfl, rfl, by decide +kernel, rfl, by decide +kernel, by decide +kernel⟩
def mb__law_turned (a : (List Tt) × Int × Unit) : Option (Fl Empty Empty (List Tt) Unit) :=
  (some a.1).bind fun (z1 : (List Tt)) =>
  (some ([] : (List Tt))).bind fun (z2 : (List Tt)) =>
  ((prange 0 ((a.1).length : Int)).bind fun xs => forP (fun (s3 : (List Tt) × (List Tt)) (x4 : Int) =>
  ((((pdiv a.2.1 (x4 + (1 : Int))).bind fun w5 => pmod w5 ((s3.1).length : Int)).bind fun w6 => ppopAt s3.1 w6).bind fun q => (push s3.2 q.1).bind fun ys => some (q.2, ys)).bind fun (z7 : ((List Tt) × (List Tt))) =>
  (some (z7.1, z7.2))) (z1, z2) xs).bind fun (s3 : (List Tt) × (List Tt)) =>
  (some (Fl.ret s3.2 ()))
def m__law_turned (a : (List Tt) × Int × Unit) : Option (List Tt) := (mb__law_turned a).bind (retP Empty.elim)
theorem c__law_turned {Γ : Gm} (T : Tx Γ) : Cal Γ "_law_turned" 1 true m__law_turned := by
  refine cal_of (k := 0) (τ := (List Tt) × Int × Unit) T.d__law_turned sc__law_turned (S := Empty) (sto := (fun s => s.elim)) (m := mb__law_turned) Empty.elim (fun s => s.elim) rfl (fun X B a d => ?_) m__law_turned fun _ => rfl
  exact (xb_pseq (sto1 := fun (z1 : (List Tt)) => [vl (a.1 : (List Tt)), vl (a.2.1 : Int), ow (OL.mk (z1 : (List Tt))), .dead, .dead]) (xp_setN d 2 (xn_eq (xn_listOf d.toCok (xr_of (xe_var d.toCok 0 rfl rfl (.inl rfl))) rfl T.b_list) rfl) rfl (.inl rfl)) (fun z1 => (xb_pseq (sto1 := fun (z2 : (List Tt)) => [vl (a.1 : (List Tt)), vl (a.2.1 : Int), ow (OL.mk (z1 : (List Tt))), ow (OL.mk (z2 : (List Tt))), .dead]) (xp_setN d 3 (xn_eq (xn_list (α := Tt) xl_nil) rfl) rfl (.inl rfl)) (fun z2 => (xb_pseq (S1 := (List Tt) × (List Tt)) (sto1 := (fun (s3 : (List Tt) × (List Tt)) => [vl (a.1 : (List Tt)), vl (a.2.1 : Int), ow (OL.mk (s3.1 : (List Tt))), ow (OL.mk (s3.2 : (List Tt))), .dead])) (xp_for (S := (List Tt) × (List Tt)) (sto := (fun (s3 : (List Tt) × (List Tt)) => [vl (a.1 : (List Tt)), vl (a.2.1 : Int), ow (OL.mk (s3.1 : (List Tt))), ow (OL.mk (s3.2 : (List Tt))), .dead])) d (z1, z2) (xi_eq (xi_range1 d.toCok (xe_lenR d.toCok (xr_of (xe_var d.toCok 0 rfl rfl (.inl rfl))) rfl T.b_len) rfl T.b_range) rfl) (fun B d => xg_name d 4 rfl (.inl rfl)) (fun B d s3 x4 => (xp_seq (sto1 := fun (z7 : ((List Tt) × (List Tt))) => [vl (a.1 : (List Tt)), vl (a.2.1 : Int), ow (OL.mk (z7.1 : (List Tt))), ow (OL.mk (z7.2 : (List Tt))), vl (x4 : Int)]) (xp_appF d 3 (us := fun (_ : (List Tt)) => s3.2) (sto := fun (s : (List Tt)) => [vl (a.1 : (List Tt)), vl (a.2.1 : Int), ow (OL.mk (s : (List Tt))), ow (OL.mk (s3.2 : (List Tt))), vl (x4 : Int)]) (xf_eq (xf_popAt d.toCok 2 rfl rfl (.inl rfl) (xe_op2 op_mod o_mod (xe_op2 op_fdiv o_div (xe_intI d.toCok (xe_var d.toCok 1 rfl rfl (.inl rfl)) rfl T.b_int) (xe_op2 op_add o_add (xe_var d.toCok 4 rfl rfl (.inl rfl)) xe_int)) (xe_lenR d.toCok (xr_own d.toCok 2 rfl rfl (.inl rfl)) rfl T.b_len))) rfl) rfl (fun _ => rfl) rfl (.inl rfl)) (fun z7 => (xp_end [(4, false)] (z7.1, z7.2) rfl))))) (fun s3 => (xb_one (xb_retO d.toCok 3 rfl rfl rfl (.inl rfl) (fun _ _ r => r) ol_fp (fun _ => d.hM) [(0, false), (1, false), (2, false), (3, false)] rfl))))))))
abbrev s__law_turnedP : Stmt := top 21
theorem sc__law_turnedP : FnScope ["_law_rows", "_law_cell_here", "_law_left", "_law_turned_here", "_law_k"] ["_law_rows", "_law_cell_here"] (defScope s__law_turnedP) := ⟨rfl, rfl, rfl, by decide +kernel, rfl, by decide +kernel, by decide +kernel⟩
def mb__law_turnedP (a : (List (Tt × Tt)) × Int × Unit) : Option (Fl Empty Empty (List (Tt × Tt)) Unit) :=
  (some a.1).bind fun (z1 : (List (Tt × Tt))) =>
  (some ([] : (List (Tt × Tt)))).bind fun (z2 : (List (Tt × Tt))) =>
  ((prange 0 ((a.1).length : Int)).bind fun xs => forP (fun (s3 : (List (Tt × Tt)) × (List (Tt × Tt))) (x4 : Int) =>
  ((((pdiv a.2.1 (x4 + (1 : Int))).bind fun w5 => pmod w5 ((s3.1).length : Int)).bind fun w6 => ppopAt s3.1 w6).bind fun q => (push s3.2 q.1).bind fun ys => some (q.2, ys)).bind fun (z7 : ((List (Tt × Tt)) × (List (Tt × Tt)))) =>
  (some (z7.1, z7.2))) (z1, z2) xs).bind fun (s3 : (List (Tt × Tt)) × (List (Tt × Tt))) =>
  (some (Fl.ret s3.2 ()))
def m__law_turnedP (a : (List (Tt × Tt)) × Int × Unit) : Option (List (Tt × Tt)) := (mb__law_turnedP a).bind (retP Empty.elim)
theorem c__law_turnedP {Γ : Gm} (T : Tx Γ) : Cal Γ "_law_turned" 1 true m__law_turnedP := by
  refine cal_of (k := 0) (τ := (List (Tt × Tt)) × Int × Unit) T.d__law_turned sc__law_turnedP (S := Empty) (sto := (fun s => s.elim)) (m := mb__law_turnedP) Empty.elim (fun s => s.elim) rfl (fun X B a d => ?_) m__law_turnedP fun _ => rfl
  exact (xb_pseq (sto1 := fun (z1 : (List (Tt × Tt))) => [vl (a.1 : (List (Tt × Tt))), vl (a.2.1 : Int), ow (OL.mk (z1 : (List (Tt × Tt)))), .dead, .dead]) (xp_setN d 2 (xn_eq (xn_listOf d.toCok (xr_of (xe_var d.toCok 0 rfl rfl (.inl rfl))) rfl T.b_list) rfl) rfl (.inl rfl)) (fun z1 => (xb_pseq (sto1 := fun (z2 : (List (Tt × Tt))) => [vl (a.1 : (List (Tt × Tt))), vl (a.2.1 : Int), ow (OL.mk (z1 : (List (Tt × Tt)))), ow (OL.mk (z2 : (List (Tt × Tt)))), .dead]) (xp_setN d 3 (xn_eq (xn_list (α := (Tt × Tt)) xl_nil) rfl) rfl (.inl rfl)) (fun z2 => (xb_pseq (S1 := (List (Tt × Tt)) × (List (Tt × Tt))) (sto1 := (fun (s3 : (List (Tt × Tt)) × (List (Tt × Tt))) => [vl (a.1 : (List (Tt × Tt))), vl (a.2.1 : Int), ow (OL.mk (s3.1 : (List (Tt × Tt)))), ow (OL.mk (s3.2 : (List (Tt × Tt)))), .dead])) (xp_for (S := (List (Tt × Tt)) × (List (Tt × Tt))) (sto := (fun (s3 : (List (Tt × Tt)) × (List (Tt × Tt))) => [vl (a.1 : (List (Tt × Tt))), vl (a.2.1 : Int), ow (OL.mk (s3.1 : (List (Tt × Tt)))), ow (OL.mk (s3.2 : (List (Tt × Tt)))), .dead])) d (z1, z2) (xi_eq (xi_range1 d.toCok (xe_lenR d.toCok (xr_of (xe_var d.toCok 0 rfl rfl (.inl rfl))) rfl T.b_len) rfl T.b_range) rfl) (fun B d => xg_name d 4 rfl (.inl rfl)) (fun B d s3 x4 => (xp_seq (sto1 := fun (z7 : ((List (Tt × Tt)) × (List (Tt × Tt)))) => [vl (a.1 : (List (Tt × Tt))), vl (a.2.1 : Int), ow (OL.mk (z7.1 : (List (Tt × Tt)))), ow (OL.mk (z7.2 : (List (Tt × Tt)))), vl (x4 : Int)]) (xp_appF d 3 (us := fun (_ : (List (Tt × Tt))) => s3.2) (sto := fun (s : (List (Tt × Tt))) => [vl (a.1 : (List (Tt × Tt))), vl (a.2.1 : Int), ow (OL.mk (s : (List (Tt × Tt)))), ow (OL.mk (s3.2 : (List (Tt × Tt)))), vl (x4 : Int)]) (xf_eq (xf_popAt d.toCok 2 rfl rfl (.inl rfl) (xe_op2 op_mod o_mod (xe_op2 op_fdiv o_div (xe_intI d.toCok (xe_var d.toCok 1 rfl rfl (.inl rfl)) rfl T.b_int) (xe_op2 op_add o_add (xe_var d.toCok 4 rfl rfl (.inl rfl)) xe_int)) (xe_lenR d.toCok (xr_own d.toCok 2 rfl rfl (.inl rfl)) rfl T.b_len))) rfl) rfl (fun _ => rfl) rfl (.inl rfl)) (fun z7 => (xp_end [(4, false)] (z7.1, z7.2) rfl))))) (fun s3 => (xb_one (xb_retO d.toCok 3 rfl rfl rfl (.inl rfl) (fun _ _ r => r) ol_fp (fun _ => d.hM) [(0, false), (1, false), (2, false), (3, false)] rfl))))))))
abbrev s_law : Stmt := top 22
theorem sc_law : FnScope ["_law_script", "_law_told", "_law_cell_here", "_law_handed", "_law_kept", "_law_web_here", "_law_rows", "_law_names", "_law_edges_here", "_law_a", "_law_strange", "_law_name", "_law_b", "_law_pairs", "_law_one", "_law_other", "_law_meet_here", "_law_suit", "_law_word"] ["_law_script"] (defScope s_law) := ⟨rfl, rfl, rfl, by decide +kernel, rfl, by decide +kernel, by decide +kernel⟩
def mb_law (a : Scr × Unit) : Option (Fl Empty Empty Bool Unit) :=
  ((b2 (some a.1) (b2 (some (16 : Int)) (some ()) fun x t => some (x, t)) fun x t => some (x, t)).bind m__law_web).bind fun (z1 : (R3 (List Tt) (List Tt) (List (Tt × Tt)))) =>
  ((b2 (some a.1) (b2 (some (47 : Int)) (some ()) fun x t => some (x, t)) fun x t => some (x, t)).bind m__law_cell).bind fun (z2 : Int) =>
  ((some (z1).a).bind fun l => ((b2 (some (z1).b) (b2 (some z2) (some ()) fun x t => some (x, t)) fun x t => some (x, t)).bind m__law_turned).bind fun n => ((b2 (some (z1).c) (b2 (pdiv z2 (3 : Int)) (some ()) fun x t => some (x, t)) fun x t => some (x, t)).bind m__law_turnedP).bind fun r => some (O3.mk l n r)).bind fun (z3 : O3) =>
  (repr3 z3).bind fun (z4 : Sx) =>
  ((m_Web___init___L ((z3).a, (z3).b, (z3).c, ())).bind fun r => (okOf r).bind fun w => some (w, ())).bind fun (z5 : (WebD × Unit)) =>
  flb (((repr3 z3).bind fun w6 => some (!decide (w6 = z4))).bind fun t => if t = true then
  (some false).bind fun b => some (Fl.ret b ())
 else
  (some (Fl.nx ()))) fun _ =>
  (forG3 (fun (s8 : Nat) =>
  ((some ((Tt.mk "zz" (by decide +kernel)), (Tt.mk "zz" (by decide +kernel)))).bind fun _ => if s8 + 1 ≤ BIG then some (s8 + 1) else none).bind fun (z10 : Nat) =>
  (some (max s8 z10))) (z3).top).bind fun (s8 : Nat) =>
  (pcat (z1).a (srt (z1).b)).bind fun (z11 : (List Tt)) =>
  flb (((orM (some (!decide ((z5.1).pairs = (z1).a))) (orM (some (!decide ((z5.1).givers = (srt (z1).b)))) (orM ((m_Web_names (z5.1, ())).bind fun w12 => some (!decide (w12 = z11))) ((m_Web_suits (z5.1, ())).bind fun w13 => some (!decide (w13 = (srt (z1).c)))))))).bind fun t => if t = true then
  (some false).bind fun b => some (Fl.ret b ())
 else
  (some (Fl.nx ()))) fun _ =>
  (some ([] : (List (Int × Int)))).bind fun (z15 : (List (Int × Int))) =>
  flb ((prange 0 ((z11).length : Int)).bind fun xs => forF (fun (s16 : (List (Int × Int))) (x17 : Int) =>
  flb ((prange 0 ((z11).length : Int)).bind fun xs => forF (fun (s18 : (List (Int × Int))) (x19 : Int) =>
  flb ((some (!decide (x17 = x19))).bind fun t => if t = true then
  ((some z5.1).bind fun w => (b2 (atI z11 x17) (b2 (atI z11 x19) (some ()) fun x t => some (x, t)) fun x t => some (x, t)).bind (fun t => m_Web_may_meet (w, t))).bind fun (z21 : Bool) =>
  ((some z5.1).bind fun w => (b2 (atI z11 x17) (b2 (atI z11 x19) (some ()) fun x t => some (x, t)) fun x t => some (x, t)).bind (fun t => m_Web_does_suit (w, t))).bind fun (z22 : Bool) =>
  flb (((orM ((andM (some (!decide (z21 = true))) (some (!decide (z21 = false))))) ((andM (some (!decide (z22 = true))) (some (!decide (z22 = false))))))).bind fun t => if t = true then
  (some false).bind fun b => some (Fl.ret b ())
 else
  (some (Fl.nx ()))) fun _ =>
  flb (((orM (((b2 (some z1) (b2 (atI z11 x17) (b2 (atI z11 x19) (some ()) fun x t => some (x, t)) fun x t => some (x, t)) fun x t => some (x, t)).bind m__law_meet).bind fun w24 => some (!decide (z21 = w24))) ((((atI z11 x17).bind fun w25 => (atI z11 x19).bind fun w26 => some (w25, w26)).bind fun w27 => some (isIn w27 (z1).c)).bind fun w28 => some (!decide (z22 = w28))))).bind fun t => if t = true then
  (some false).bind fun b => some (Fl.ret b ())
 else
  (some (Fl.nx ()))) fun _ =>
  (((andM (some z21) (some (decide (x17 < x19))))).bind fun t => if t = true then
  (push s18 (x17, x19)).bind fun (z31 : (List (Int × Int))) =>
  (some z31)
 else
  (some s18)).bind fun (s30 : (List (Int × Int))) =>
  (some (Fl.nx s30))
 else
  (some (Fl.nx s18))) fun (s20 : (List (Int × Int))) =>
  (some (Fl.nx s20))) s16 xs) fun (s18 : (List (Int × Int))) =>
  (some (Fl.nx s18))) z15 xs) fun (s16 : (List (Int × Int))) =>
  ((lcB (fun (x33 : Tt) => (some (!isIn x33 z11))) (fun (x33 : Tt) => (some x33)) ((TL.mk [(Tt.mk "q" (by decide +kernel)), (Tt.mk "qq" (by decide +kernel)), (Tt.mk "zebra" (by decide +kernel)), (Tt.mk "qzqz" (by decide +kernel))])).l).bind fun w34 => (pmod z2 (2 : Int)).bind fun w35 => atI w34 w35).bind fun (z32 : Tt) =>
  flb ((pcat z11 [z32]).bind fun xs => forF (fun (_ : Unit) (x37 : Tt) =>
  (some [(x37, x37), (x37, z32), (z32, x37)]).bind fun (z38 : (List (Tt × Tt))) =>
  flb ((some z38).bind fun xs => forF (fun (_ : Unit) (x40 : (Tt × Tt)) =>
  flb (((orM (((some z5.1).bind fun w => (b2 (some x40.1) (b2 (some x40.2) (some ()) fun x t => some (x, t)) fun x t => some (x, t)).bind (fun t => m_Web_may_meet (w, t))).bind fun w41 => some (!decide (w41 = false))) (((some z5.1).bind fun w => (b2 (some x40.1) (b2 (some x40.2) (some ()) fun x t => some (x, t)) fun x t => some (x, t)).bind (fun t => m_Web_does_suit (w, t))).bind fun w42 => some (!decide (w42 = false))))).bind fun t => if t = true then
  (some false).bind fun b => some (Fl.ret b ())
 else
  (some (Fl.nx ()))) fun _ =>
  (some (Fl.nx ()))) () xs) fun (_ : Unit) =>
  (some (Fl.nx ()))) () xs) fun (_ : Unit) =>
  flb (((m_Web_edges (z5.1, ())).bind fun w44 => some (!decide (w44 = s16))).bind fun t => if t = true then
  (some false).bind fun b => some (Fl.ret b ())
 else
  (some (Fl.nx ()))) fun _ =>
  flb ((m_Web_edges (z5.1, ())).bind fun xs => forF (fun (_ : Unit) (x47 : (Int × Int)) =>
  flb (((orM (some false) (some false))).bind fun t => if t = true then
  (some false).bind fun b => some (Fl.ret b ())
 else
  (some (Fl.nx ()))) fun _ =>
  (some (Fl.nx ()))) () xs) fun (_ : Unit) =>
  flb ((((m_Web_names (z5.1, ())).bind fun w49 => (m_Web_suits (z5.1, ())).bind fun w50 => some (R4.mk (z5.1).pairs (z5.1).givers w49 w50)).bind fun w51 => some (!decide (w51 = (R4.mk (z1).a (srt (z1).b) z11 (srt (z1).c))))).bind fun t => if t = true then
  (some false).bind fun b => some (Fl.ret b ())
 else
  (some (Fl.nx ()))) fun _ =>
  ((m_Web_edges (z5.1, ())).bind fun w53 => if (w53).length + 1 ≤ BIG then some () else none).bind fun _ =>
  ((m_Web_names (z5.1, ())).bind fun w54 => if (w54).length + 1 ≤ BIG then some () else none).bind fun _ =>
  ((m_Web_suits (z5.1, ())).bind fun w55 => if (w55).length + 1 ≤ BIG then some () else none).bind fun _ =>
  ((andM ((m_Web_edges (z5.1, ())).bind fun w56 => some (decide (w56 = s16))) (andM ((m_Web_names (z5.1, ())).bind fun w57 => some (decide (w57 = z11))) ((m_Web_suits (z5.1, ())).bind fun w58 => some (decide (w58 = (srt (z1).c))))))).bind fun b => some (Fl.ret b ())
def m_law (a : Scr × Unit) : Option Bool := (mb_law a).bind (retP Empty.elim)
theorem f_law {Γ : Gm} (T : Tx Γ) {f : Addr} {fd : FuncData} (F : Fun Γ.K "law" "law" s_law f fd) : Law1 Γ.P Γ.w Γ.K Γ.mg Γ.base f fd ["_law_script"] (specP Γ false m_law) := by
  refine fnok1_of (k := 3) (τ := Scr × Unit) F sc_law (S := Empty) (sto := (fun s => s.elim)) (m := mb_law) Empty.elim (fun s => s.elim) rfl ⟨rfl, by decide, by decide⟩ (fun X B a d hgd => ?_) m_law fun _ => rfl
  exact (xb_pseq (sto1 := fun (z1 : (R3 (List Tt) (List Tt) (List (Tt × Tt)))) => [vl (a.1 : Scr), vl (z1 : (R3 (List Tt) (List Tt) (List (Tt × Tt)))), .dead, .dead, .dead, .dead, .dead, .dead, .dead, .dead, .dead, .dead, .dead, .dead, .dead, .dead, .dead, .dead, .dead]) (xp_set d 1 (xe_eq (xe_call d.toCok (c__law_web T) (by decide) rfl (xa_cons (xe_var d.toCok 0 rfl rfl (.inl rfl)) (xa_cons xe_int xa_nil))) rfl) rfl (.inl rfl)) (fun z1 => (xb_pseq (sto1 := fun (z2 : Int) => [vl (a.1 : Scr), vl (z1 : (R3 (List Tt) (List Tt) (List (Tt × Tt)))), vl (z2 : Int), .dead, .dead, .dead, .dead, .dead, .dead, .dead, .dead, .dead, .dead, .dead, .dead, .dead, .dead, .dead, .dead]) (xp_set d 2 (xe_eq (xe_call d.toCok (c__law_cell T) (by decide) rfl (xa_cons (xe_var d.toCok 0 rfl rfl (.inl rfl)) (xa_cons xe_int xa_nil))) rfl) rfl (.inl rfl)) (fun z2 => (xb_pseq (sto1 := fun (z3 : O3) => [vl (a.1 : Scr), vl (z1 : (R3 (List Tt) (List Tt) (List (Tt × Tt)))), vl (z2 : Int), ow (z3 : O3), .dead, .dead, .dead, .dead, .dead, .dead, .dead, .dead, .dead, .dead, .dead, .dead, .dead, .dead, .dead]) (xp_setNO d 3 (xno_o3 (xn_eq (xn_listOf d.toCok (xr_of (xe_r3a (xe_var d.toCok 1 rfl rfl (.inl rfl)))) rfl T.b_list) rfl) (xn_eq (xn_callN d.toCok (c__law_turned T) (by decide) rfl (xa_cons (xe_r3b (xe_var d.toCok 1 rfl rfl (.inl rfl))) (xa_cons (xe_var d.toCok 2 rfl rfl (.inl rfl)) xa_nil))) rfl) (xn_eq (xn_callN d.toCok (c__law_turnedP T) (by decide) rfl (xa_cons (xe_r3c (xe_var d.toCok 1 rfl rfl (.inl rfl))) (xa_cons (xe_op2 op_fdiv o_div (xe_var d.toCok 2 rfl rfl (.inl rfl)) xe_int) xa_nil))) rfl)) rfl (.inl rfl)) (fun z3 => (xb_pseq (sto1 := fun (z4 : Sx) => [vl (a.1 : Scr), vl (z1 : (R3 (List Tt) (List Tt) (List (Tt × Tt)))), vl (z2 : Int), ow (z3 : O3), vl (z4 : Sx), .dead, .dead, .dead, .dead, .dead, .dead, .dead, .dead, .dead, .dead, .dead, .dead, .dead, .dead]) (xp_set d 4 (xe_eq (xe_repr3 d.toCok hgd 3 rfl rfl (.inl rfl) rfl T.b_repr) rfl) rfl (.inl rfl)) (fun z4 => (xb_pseq (sto1 := fun (z5 : (WebD × Unit)) => [vl (a.1 : Scr), vl (z1 : (R3 (List Tt) (List Tt) (List (Tt × Tt)))), vl (z2 : Int), ow (z3 : O3), vl (z4 : Sx), vl (z5.1 : WebD), .dead, .dead, .dead, .dead, .dead, .dead, .dead, .dead, .dead, .dead, .dead, .dead, .dead]) (xp_setF d 5 (sto := fun (_ : Unit) => [vl (a.1 : Scr), vl (z1 : (R3 (List Tt) (List Tt) (List (Tt × Tt)))), vl (z2 : Int), ow (z3 : O3), vl (z4 : Sx), .dead, .dead, .dead, .dead, .dead, .dead, .dead, .dead, .dead, .dead, .dead, .dead, .dead, .dead]) (xf_eq (xf_makeL d.toCok (c_Web___init___L T) (by decide) 3 rfl rfl (.inl rfl) rfl) rfl) rfl (.inl rfl)) (fun z5 => (xb_seq (S1 := Unit) (sto1 := (fun (_ : Unit) => [vl (a.1 : Scr), vl (z1 : (R3 (List Tt) (List Tt) (List (Tt × Tt)))), vl (z2 : Int), ow (z3 : O3), vl (z4 : Sx), vl (z5.1 : WebD), .dead, .dead, .dead, .dead, .dead, .dead, .dead, .dead, .dead, .dead, .dead, .dead, .dead])) (xb_if (S := Unit) (sto := (fun (_ : Unit) => [vl (a.1 : Scr), vl (z1 : (R3 (List Tt) (List Tt) (List (Tt × Tt)))), vl (z2 : Int), ow (z3 : O3), vl (z4 : Sx), vl (z5.1 : WebD), .dead, .dead, .dead, .dead, .dead, .dead, .dead, .dead, .dead, .dead, .dead, .dead, .dead])) (xt_eq (xt_ofC (xc_op2 op_ne o_neX (xe_repr3 d.toCok hgd 3 rfl rfl (.inl rfl) rfl T.b_repr) (xe_var d.toCok 4 rfl rfl (.inl rfl)))) rfl) (xb_one (xb_ret (c := ()) (xe_eq xe_bl rfl) rfl [(0, false), (1, false), (2, false), (3, false), (4, false), (5, false)] rfl rfl)) (xb_end [] () rfl)) (fun _ => (xb_open3 (z := z3) (i := 3) rfl (fun rg => (xb_pseq (S1 := Nat) (sto1 := (fun (s8 : Nat) => [.dead, vl (z1 : (R3 (List Tt) (List Tt) (List (Tt × Tt)))), vl (z2 : Int), ow (O3g.mk (r := rg) s8 : O3g rg), .dead, vl (z5.1 : WebD), .dead, .dead, .dead, .dead, .dead, .dead, .dead, .dead, .dead, .dead, .dead, .dead, .dead])) (xp1_pre [(0, false), (4, false)] (xp1_eq (xp_for (S := Nat) (sto := (fun (s8 : Nat) => [.dead, vl (z1 : (R3 (List Tt) (List Tt) (List (Tt × Tt)))), vl (z2 : Int), ow (O3g.mk (r := rg) s8 : O3g rg), .dead, vl (z5.1 : WebD), .dead, .dead, .dead, .dead, .dead, .dead, .dead, .dead, .dead, .dead, .dead, .dead, .dead])) d (z3).top (xi_eq (xi_list (xe_o3g d.toCok 3 rfl rfl (.inl rfl))) rfl) (fun B d => xg_name d 6 rfl (.inl rfl)) (fun B d s8 (x9 : It rg) => (xp_seq (sto1 := fun (z10 : Nat) => [.dead, vl (z1 : (R3 (List Tt) (List Tt) (List (Tt × Tt)))), vl (z2 : Int), ow (O3g.mk (r := rg) (max s8 z10) : O3g rg), .dead, vl (z5.1 : WebD), vl (x9 : (It rg)), .dead, .dead, .dead, .dead, .dead, .dead, .dead, .dead, .dead, .dead, .dead, .dead]) (xp1_eq (xp_appG d (xow_o3g d.toCok 3 6 rfl rfl rfl (.inl rfl)) (up_o3g (i := 3) rfl) (show XE _ _ _ _ _ (some ((Tt.mk "zz" (by decide +kernel)), (Tt.mk "zz" (by decide +kernel)))) from (xe_tup2 xe_str xe_str))) rfl) (fun z10 => (xp_end [(6, false)] (max s8 z10) rfl))))) rfl) rfl) (fun s8 => (xb_pre [(3, false)] (xb_pseq (sto1 := fun (z11 : (List Tt)) => [.dead, vl (z1 : (R3 (List Tt) (List Tt) (List (Tt × Tt)))), vl (z2 : Int), .dead, .dead, vl (z5.1 : WebD), .dead, vl (z11 : (List Tt)), .dead, .dead, .dead, .dead, .dead, .dead, .dead, .dead, .dead, .dead, .dead]) (xp_set d 7 (xe_eq (xe_ofN (xn_cat (xr_of (xe_r3a (xe_var d.toCok 1 rfl rfl (.inl rfl)))) (xr_ofN (xn_sortT d.toCok (xr_of (xe_r3b (xe_var d.toCok 1 rfl rfl (.inl rfl)))) rfl T.b_sorted)))) rfl) rfl (.inr rfl)) (fun z11 => (xb_seq (S1 := Unit) (sto1 := (fun (_ : Unit) => [.dead, vl (z1 : (R3 (List Tt) (List Tt) (List (Tt × Tt)))), vl (z2 : Int), .dead, .dead, vl (z5.1 : WebD), .dead, vl (z11 : (List Tt)), .dead, .dead, .dead, .dead, .dead, .dead, .dead, .dead, .dead, .dead, .dead])) (xb_if (S := Unit) (sto := (fun (_ : Unit) => [.dead, vl (z1 : (R3 (List Tt) (List Tt) (List (Tt × Tt)))), vl (z2 : Int), .dead, .dead, vl (z5.1 : WebD), .dead, vl (z11 : (List Tt)), .dead, .dead, .dead, .dead, .dead, .dead, .dead, .dead, .dead, .dead, .dead])) (xt_eq (xt_w (xw_or (xt_ofC (xc_neD d.toCok (xe_wP d.toCok T.wb (xe_var d.toCok 5 rfl rfl (.inl rfl))) (xe_r3a (xe_var d.toCok 1 rfl rfl (.inl rfl))))) (xw_or (xt_ofC (xc_neD d.toCok (xe_wG d.toCok T.wb (xe_var d.toCok 5 rfl rfl (.inl rfl))) (xe_ofN (xn_sortT d.toCok (xr_of (xe_r3b (xe_var d.toCok 1 rfl rfl (.inl rfl)))) rfl T.b_sorted)))) (xw_or (xt_ofC (xc_neD d.toCok (xe_ofN (xn_meth0 d.toCok T.wb (c_Web_names T) (by decide) (xe_var d.toCok 5 rfl rfl (.inl rfl)))) (xe_var d.toCok 7 rfl rfl (.inr (.inl rfl))))) (xw_or1 (xt_ofC (xc_neD d.toCok (xe_ofN (xn_meth0 d.toCok T.wb (c_Web_suits T) (by decide) (xe_var d.toCok 5 rfl rfl (.inl rfl)))) (xe_ofN (xn_sortPT d.toCok (xr_of (xe_r3c (xe_var d.toCok 1 rfl rfl (.inl rfl)))) rfl T.b_sorted))))))))) rfl) (xb_one (xb_ret (c := ()) (xe_eq xe_bl rfl) rfl [(1, false), (2, false), (5, false), (7, false)] rfl rfl)) (xb_end [] () rfl)) (fun _ => (xb_pseq (sto1 := fun (z15 : (List (Int × Int))) => [.dead, vl (z1 : (R3 (List Tt) (List Tt) (List (Tt × Tt)))), vl (z2 : Int), .dead, .dead, vl (z5.1 : WebD), .dead, vl (z11 : (List Tt)), ow (OL.mk (z15 : (List (Int × Int)))), .dead, .dead, .dead, .dead, .dead, .dead, .dead, .dead, .dead, .dead]) (xp_setN d 8 (xn_eq (xn_list (α := (Int × Int)) xl_nil) rfl) rfl (.inl rfl)) (fun z15 => (xb_seq (S1 := (List (Int × Int))) (sto1 := (fun (s16 : (List (Int × Int))) => [.dead, vl (z1 : (R3 (List Tt) (List Tt) (List (Tt × Tt)))), vl (z2 : Int), .dead, .dead, vl (z5.1 : WebD), .dead, vl (z11 : (List Tt)), ow (OL.mk (s16 : (List (Int × Int)))), .dead, .dead, .dead, .dead, .dead, .dead, .dead, .dead, .dead, .dead])) (xb_for (S := (List (Int × Int))) (sto := (fun (s16 : (List (Int × Int))) => [.dead, vl (z1 : (R3 (List Tt) (List Tt) (List (Tt × Tt)))), vl (z2 : Int), .dead, .dead, vl (z5.1 : WebD), .dead, vl (z11 : (List Tt)), ow (OL.mk (s16 : (List (Int × Int)))), .dead, .dead, .dead, .dead, .dead, .dead, .dead, .dead, .dead, .dead])) d z15 (xi_eq (xi_range1 d.toCok (xe_lenR d.toCok (xr_of (xe_var d.toCok 7 rfl rfl (.inr (.inl rfl)))) rfl T.b_len) rfl T.b_range) rfl) (fun B d => xg_name d 9 rfl (.inl rfl)) (fun B d s16 x17 => (xb_seq (S1 := (List (Int × Int))) (sto1 := (fun (s18 : (List (Int × Int))) => [.dead, vl (z1 : (R3 (List Tt) (List Tt) (List (Tt × Tt)))), vl (z2 : Int), .dead, .dead, vl (z5.1 : WebD), .dead, vl (z11 : (List Tt)), ow (OL.mk (s18 : (List (Int × Int)))), vl (x17 : Int), .dead, .dead, .dead, .dead, .dead, .dead, .dead, .dead, .dead])) (xb_for (S := (List (Int × Int))) (sto := (fun (s18 : (List (Int × Int))) => [.dead, vl (z1 : (R3 (List Tt) (List Tt) (List (Tt × Tt)))), vl (z2 : Int), .dead, .dead, vl (z5.1 : WebD), .dead, vl (z11 : (List Tt)), ow (OL.mk (s18 : (List (Int × Int)))), vl (x17 : Int), .dead, .dead, .dead, .dead, .dead, .dead, .dead, .dead, .dead])) d s16 (xi_eq (xi_range1 d.toCok (xe_lenR d.toCok (xr_of (xe_var d.toCok 7 rfl rfl (.inr (.inl rfl)))) rfl T.b_len) rfl T.b_range) rfl) (fun B d => xg_name d 12 rfl (.inl rfl)) (fun B d s18 x19 => (xb_seq (S1 := (List (Int × Int))) (sto1 := (fun (s20 : (List (Int × Int))) => [.dead, vl (z1 : (R3 (List Tt) (List Tt) (List (Tt × Tt)))), vl (z2 : Int), .dead, .dead, vl (z5.1 : WebD), .dead, vl (z11 : (List Tt)), ow (OL.mk (s20 : (List (Int × Int)))), vl (x17 : Int), .dead, .dead, vl (x19 : Int), .dead, .dead, .dead, .dead, .dead, .dead])) (xb_if (S := (List (Int × Int))) (sto := (fun (s20 : (List (Int × Int))) => [.dead, vl (z1 : (R3 (List Tt) (List Tt) (List (Tt × Tt)))), vl (z2 : Int), .dead, .dead, vl (z5.1 : WebD), .dead, vl (z11 : (List Tt)), ow (OL.mk (s20 : (List (Int × Int)))), vl (x17 : Int), .dead, .dead, vl (x19 : Int), .dead, .dead, .dead, .dead, .dead, .dead])) (xt_eq (xt_ofC (xc_op2 op_ne o_neI (xe_var d.toCok 9 rfl rfl (.inl rfl)) (xe_var d.toCok 12 rfl rfl (.inl rfl)))) rfl) (xb_pseq (sto1 := fun (z21 : Bool) => [.dead, vl (z1 : (R3 (List Tt) (List Tt) (List (Tt × Tt)))), vl (z2 : Int), .dead, .dead, vl (z5.1 : WebD), .dead, vl (z11 : (List Tt)), ow (OL.mk (s18 : (List (Int × Int)))), vl (x17 : Int), .dead, .dead, vl (x19 : Int), .dead, .dead, .dead, vl (z21 : Bool), .dead, .dead]) (xp_set d 16 (xe_eq (xe_meth d.toCok T.wb (c_Web_may_meet T) (by decide) (xe_var d.toCok 5 rfl rfl (.inl rfl)) (xa_cons (xe_ix (xr_of (xe_var d.toCok 7 rfl rfl (.inr (.inl rfl)))) (xe_var d.toCok 9 rfl rfl (.inl rfl))) (xa_cons (xe_ix (xr_of (xe_var d.toCok 7 rfl rfl (.inr (.inl rfl)))) (xe_var d.toCok 12 rfl rfl (.inl rfl))) xa_nil))) rfl) rfl (.inl rfl)) (fun z21 => (xb_pseq (sto1 := fun (z22 : Bool) => [.dead, vl (z1 : (R3 (List Tt) (List Tt) (List (Tt × Tt)))), vl (z2 : Int), .dead, .dead, vl (z5.1 : WebD), .dead, vl (z11 : (List Tt)), ow (OL.mk (s18 : (List (Int × Int)))), vl (x17 : Int), .dead, .dead, vl (x19 : Int), .dead, .dead, .dead, vl (z21 : Bool), vl (z22 : Bool), .dead]) (xp_set d 17 (xe_eq (xe_meth d.toCok T.wb (c_Web_does_suit T) (by decide) (xe_var d.toCok 5 rfl rfl (.inl rfl)) (xa_cons (xe_ix (xr_of (xe_var d.toCok 7 rfl rfl (.inr (.inl rfl)))) (xe_var d.toCok 9 rfl rfl (.inl rfl))) (xa_cons (xe_ix (xr_of (xe_var d.toCok 7 rfl rfl (.inr (.inl rfl)))) (xe_var d.toCok 12 rfl rfl (.inl rfl))) xa_nil))) rfl) rfl (.inl rfl)) (fun z22 => (xb_seq (S1 := Unit) (sto1 := (fun (_ : Unit) => [.dead, vl (z1 : (R3 (List Tt) (List Tt) (List (Tt × Tt)))), vl (z2 : Int), .dead, .dead, vl (z5.1 : WebD), .dead, vl (z11 : (List Tt)), ow (OL.mk (s18 : (List (Int × Int)))), vl (x17 : Int), .dead, .dead, vl (x19 : Int), .dead, .dead, .dead, vl (z21 : Bool), vl (z22 : Bool), .dead])) (xb_if (S := Unit) (sto := (fun (_ : Unit) => [.dead, vl (z1 : (R3 (List Tt) (List Tt) (List (Tt × Tt)))), vl (z2 : Int), .dead, .dead, vl (z5.1 : WebD), .dead, vl (z11 : (List Tt)), ow (OL.mk (s18 : (List (Int × Int)))), vl (x17 : Int), .dead, .dead, vl (x19 : Int), .dead, .dead, .dead, vl (z21 : Bool), vl (z22 : Bool), .dead])) (xt_eq (xt_w (xw_or (xt_w (xw_and (xt_ofC (xc_op2 op_isnot_bl o_isnotB (xe_var d.toCok 16 rfl rfl (.inl rfl)) xe_bl)) (xw_and1 (xt_ofC (xc_op2 op_isnot_bl o_isnotB (xe_var d.toCok 16 rfl rfl (.inl rfl)) xe_bl))))) (xw_or1 (xt_w (xw_and (xt_ofC (xc_op2 op_isnot_bl o_isnotB (xe_var d.toCok 17 rfl rfl (.inl rfl)) xe_bl)) (xw_and1 (xt_ofC (xc_op2 op_isnot_bl o_isnotB (xe_var d.toCok 17 rfl rfl (.inl rfl)) xe_bl)))))))) rfl) (xb_one (xb_ret (c := ()) (xe_eq xe_bl rfl) rfl [(1, false), (2, false), (5, false), (7, false), (8, false), (9, false), (12, false), (16, false), (17, false)] rfl rfl)) (xb_end [] () rfl)) (fun _ => (xb_seq (S1 := Unit) (sto1 := (fun (_ : Unit) => [.dead, vl (z1 : (R3 (List Tt) (List Tt) (List (Tt × Tt)))), vl (z2 : Int), .dead, .dead, vl (z5.1 : WebD), .dead, vl (z11 : (List Tt)), ow (OL.mk (s18 : (List (Int × Int)))), vl (x17 : Int), .dead, .dead, vl (x19 : Int), .dead, .dead, .dead, vl (z21 : Bool), vl (z22 : Bool), .dead])) (xb_if (S := Unit) (sto := (fun (_ : Unit) => [.dead, vl (z1 : (R3 (List Tt) (List Tt) (List (Tt × Tt)))), vl (z2 : Int), .dead, .dead, vl (z5.1 : WebD), .dead, vl (z11 : (List Tt)), ow (OL.mk (s18 : (List (Int × Int)))), vl (x17 : Int), .dead, .dead, vl (x19 : Int), .dead, .dead, .dead, vl (z21 : Bool), vl (z22 : Bool), .dead])) (xt_eq (xt_w (xw_or (xt_ofC (xc_op2 op_ne o_neB (xe_var d.toCok 16 rfl rfl (.inl rfl)) (xe_call d.toCok (c__law_meet T) (by decide) rfl (xa_cons (xe_var d.toCok 1 rfl rfl (.inl rfl)) (xa_cons (xe_ix (xr_of (xe_var d.toCok 7 rfl rfl (.inr (.inl rfl)))) (xe_var d.toCok 9 rfl rfl (.inl rfl))) (xa_cons (xe_ix (xr_of (xe_var d.toCok 7 rfl rfl (.inr (.inl rfl)))) (xe_var d.toCok 12 rfl rfl (.inl rfl))) xa_nil)))))) (xw_or1 (xt_ofC (xc_op2 op_ne o_neB (xe_var d.toCok 17 rfl rfl (.inl rfl)) (xe_ofC (xc_deepIn d.toCok (xe_tup2 (xe_ix (xr_of (xe_var d.toCok 7 rfl rfl (.inr (.inl rfl)))) (xe_var d.toCok 9 rfl rfl (.inl rfl))) (xe_ix (xr_of (xe_var d.toCok 7 rfl rfl (.inr (.inl rfl)))) (xe_var d.toCok 12 rfl rfl (.inl rfl)))) (xr_of (xe_r3c (xe_var d.toCok 1 rfl rfl (.inl rfl))))))))))) rfl) (xb_one (xb_ret (c := ()) (xe_eq xe_bl rfl) rfl [(1, false), (2, false), (5, false), (7, false), (8, false), (9, false), (12, false), (16, false), (17, false)] rfl rfl)) (xb_end [] () rfl)) (fun _ => (xb_pseq (S1 := (List (Int × Int))) (sto1 := (fun (s30 : (List (Int × Int))) => [.dead, vl (z1 : (R3 (List Tt) (List Tt) (List (Tt × Tt)))), vl (z2 : Int), .dead, .dead, vl (z5.1 : WebD), .dead, vl (z11 : (List Tt)), ow (OL.mk (s30 : (List (Int × Int)))), vl (x17 : Int), .dead, .dead, vl (x19 : Int), .dead, .dead, .dead, vl (z21 : Bool), vl (z22 : Bool), .dead])) (xp_if (S := (List (Int × Int))) (sto := (fun (s30 : (List (Int × Int))) => [.dead, vl (z1 : (R3 (List Tt) (List Tt) (List (Tt × Tt)))), vl (z2 : Int), .dead, .dead, vl (z5.1 : WebD), .dead, vl (z11 : (List Tt)), ow (OL.mk (s30 : (List (Int × Int)))), vl (x17 : Int), .dead, .dead, vl (x19 : Int), .dead, .dead, .dead, vl (z21 : Bool), vl (z22 : Bool), .dead])) (xt_eq (xt_w (xw_and (xt_val (xe_var d.toCok 16 rfl rfl (.inl rfl))) (xw_and1 (xt_ofC (xc_op2 op_lt o_lt (xe_var d.toCok 9 rfl rfl (.inl rfl)) (xe_var d.toCok 12 rfl rfl (.inl rfl))))))) rfl) (xp_seq (sto1 := fun (z31 : (List (Int × Int))) => [.dead, vl (z1 : (R3 (List Tt) (List Tt) (List (Tt × Tt)))), vl (z2 : Int), .dead, .dead, vl (z5.1 : WebD), .dead, vl (z11 : (List Tt)), ow (OL.mk (z31 : (List (Int × Int)))), vl (x17 : Int), .dead, .dead, vl (x19 : Int), .dead, .dead, .dead, vl (z21 : Bool), vl (z22 : Bool), .dead]) (xp1_eq (xp_append d 8 rfl rfl (.inl rfl) (xe_tup2 (xe_var d.toCok 9 rfl rfl (.inl rfl)) (xe_var d.toCok 12 rfl rfl (.inl rfl)))) rfl) (fun z31 => (xp_end [] z31 rfl))) (xp_end [] s18 rfl)) (fun s30 => (xb_end [(16, false), (17, false)] s30 rfl))))))))))) (xb_end [] s18 rfl)) (fun s20 => (xb_end [(12, false)] s20 rfl))))) (fun s18 => (xb_end [(9, false)] s18 rfl))))) (fun s16 => (xb_pseq (sto1 := fun (z32 : Tt) => [.dead, vl (z1 : (R3 (List Tt) (List Tt) (List (Tt × Tt)))), vl (z2 : Int), .dead, .dead, vl (z5.1 : WebD), .dead, vl (z11 : (List Tt)), ow (OL.mk (s16 : (List (Int × Int)))), .dead, vl (z32 : Tt), .dead, .dead, .dead, .dead, .dead, .dead, .dead, .dead]) (xp_set d 10 (xe_eq (xe_ix (xr_ofN (xn_lc (t := fun (x33 : Tt) => (some (!isIn x33 z11))) (f := fun (x33 : Tt) => (some x33)) (i := 18) d.toCok (xi_eq (xi_tup (xe_eq (xe_tupL (xl_cons xe_str (xl_cons xe_str (xl_cons xe_str (xl_cons xe_str (xl_nil)))))) rfl)) rfl) rfl rfl rfl rfl rfl d.hfx (fun X c x33 => xts_one (xt_eq (xt_ofC (xc_notIn (xe_var c 18 rfl rfl (.inl rfl)) (xr_of (xe_var c 7 rfl rfl (.inr (.inl rfl)))))) rfl)) (fun X c x33 => (xe_eq (xe_var c 18 rfl rfl (.inl rfl)) rfl)))) (xe_op2 op_mod o_mod (xe_intI d.toCok (xe_var d.toCok 2 rfl rfl (.inl rfl)) rfl T.b_int) xe_int)) rfl) rfl (.inl rfl)) (fun z32 => (xb_seq (S1 := Unit) (sto1 := (fun (_ : Unit) => [.dead, vl (z1 : (R3 (List Tt) (List Tt) (List (Tt × Tt)))), .dead, .dead, .dead, vl (z5.1 : WebD), .dead, vl (z11 : (List Tt)), vl (s16 : (List (Int × Int))), .dead, vl (z32 : Tt), .dead, .dead, .dead, .dead, .dead, .dead, .dead, .dead])) (xb1_pre [(2, false), (8, true)] (xb_for (S := Unit) (sto := (fun (_ : Unit) => [.dead, vl (z1 : (R3 (List Tt) (List Tt) (List (Tt × Tt)))), .dead, .dead, .dead, vl (z5.1 : WebD), .dead, vl (z11 : (List Tt)), vl (s16 : (List (Int × Int))), .dead, vl (z32 : Tt), .dead, .dead, .dead, .dead, .dead, .dead, .dead, .dead])) d () (xi_eq (xi_list (xe_ofN (xn_cat (xr_of (xe_var d.toCok 7 rfl rfl (.inr (.inl rfl)))) (xr_ofN (xn_list (xl_cons (xe_var d.toCok 10 rfl rfl (.inl rfl)) xl_nil)))))) rfl) (fun B d => xg_name d 11 rfl (.inl rfl)) (fun B d _ x37 => (xb_pseq (sto1 := fun (z38 : (List (Tt × Tt))) => [.dead, vl (z1 : (R3 (List Tt) (List Tt) (List (Tt × Tt)))), .dead, .dead, .dead, vl (z5.1 : WebD), .dead, vl (z11 : (List Tt)), vl (s16 : (List (Int × Int))), .dead, vl (z32 : Tt), vl (x37 : Tt), .dead, vl (z38 : (List (Tt × Tt))), .dead, .dead, .dead, .dead, .dead]) (xp_set d 13 (xe_eq (xe_ofN (xn_list (xl_cons (xe_tup2 (xe_var d.toCok 11 rfl rfl (.inl rfl)) (xe_var d.toCok 11 rfl rfl (.inl rfl))) (xl_cons (xe_tup2 (xe_var d.toCok 11 rfl rfl (.inl rfl)) (xe_var d.toCok 10 rfl rfl (.inl rfl))) (xl_cons (xe_tup2 (xe_var d.toCok 10 rfl rfl (.inl rfl)) (xe_var d.toCok 11 rfl rfl (.inl rfl))) xl_nil))))) rfl) rfl (.inl rfl)) (fun z38 => (xb_seq (S1 := Unit) (sto1 := (fun (_ : Unit) => [.dead, vl (z1 : (R3 (List Tt) (List Tt) (List (Tt × Tt)))), .dead, .dead, .dead, vl (z5.1 : WebD), .dead, vl (z11 : (List Tt)), vl (s16 : (List (Int × Int))), .dead, vl (z32 : Tt), .dead, .dead, vl (z38 : (List (Tt × Tt))), .dead, .dead, .dead, .dead, .dead])) (xb1_pre [(11, false)] (xb_for (S := Unit) (sto := (fun (_ : Unit) => [.dead, vl (z1 : (R3 (List Tt) (List Tt) (List (Tt × Tt)))), .dead, .dead, .dead, vl (z5.1 : WebD), .dead, vl (z11 : (List Tt)), vl (s16 : (List (Int × Int))), .dead, vl (z32 : Tt), .dead, .dead, vl (z38 : (List (Tt × Tt))), .dead, .dead, .dead, .dead, .dead])) d () (xi_eq (xi_list (xe_var d.toCok 13 rfl rfl (.inl rfl))) rfl) (fun B d => xg_pair d 14 15 rfl (.inl rfl) rfl (.inl rfl)) (fun B d _ x40 => (xb_seq (S1 := Unit) (sto1 := (fun (_ : Unit) => [.dead, vl (z1 : (R3 (List Tt) (List Tt) (List (Tt × Tt)))), .dead, .dead, .dead, vl (z5.1 : WebD), .dead, vl (z11 : (List Tt)), vl (s16 : (List (Int × Int))), .dead, vl (z32 : Tt), .dead, .dead, vl (z38 : (List (Tt × Tt))), vl (x40.1 : Tt), vl (x40.2 : Tt), .dead, .dead, .dead])) (xb_if (S := Unit) (sto := (fun (_ : Unit) => [.dead, vl (z1 : (R3 (List Tt) (List Tt) (List (Tt × Tt)))), .dead, .dead, .dead, vl (z5.1 : WebD), .dead, vl (z11 : (List Tt)), vl (s16 : (List (Int × Int))), .dead, vl (z32 : Tt), .dead, .dead, vl (z38 : (List (Tt × Tt))), vl (x40.1 : Tt), vl (x40.2 : Tt), .dead, .dead, .dead])) (xt_eq (xt_w (xw_or (xt_ofC (xc_op2 op_isnot_bl o_isnotB (xe_meth d.toCok T.wb (c_Web_may_meet T) (by decide) (xe_var d.toCok 5 rfl rfl (.inl rfl)) (xa_cons (xe_var d.toCok 14 rfl rfl (.inl rfl)) (xa_cons (xe_var d.toCok 15 rfl rfl (.inl rfl)) xa_nil))) xe_bl)) (xw_or1 (xt_ofC (xc_op2 op_isnot_bl o_isnotB (xe_meth d.toCok T.wb (c_Web_does_suit T) (by decide) (xe_var d.toCok 5 rfl rfl (.inl rfl)) (xa_cons (xe_var d.toCok 14 rfl rfl (.inl rfl)) (xa_cons (xe_var d.toCok 15 rfl rfl (.inl rfl)) xa_nil))) xe_bl))))) rfl) (xb_one (xb_ret (c := ()) (xe_eq xe_bl rfl) rfl [(1, false), (5, false), (7, false), (8, false), (10, false), (13, false), (14, false), (15, false)] rfl rfl)) (xb_end [] () rfl)) (fun _ => (xb_end [(14, false), (15, false)] () rfl))))) rfl) (fun _ => (xb_end [(13, false)] () rfl))))))) rfl) (fun _ => (xb_seq (S1 := Unit) (sto1 := (fun (_ : Unit) => [.dead, vl (z1 : (R3 (List Tt) (List Tt) (List (Tt × Tt)))), .dead, .dead, .dead, vl (z5.1 : WebD), .dead, vl (z11 : (List Tt)), vl (s16 : (List (Int × Int))), .dead, vl (z32 : Tt), .dead, .dead, .dead, .dead, .dead, .dead, .dead, .dead])) (xb_if (S := Unit) (sto := (fun (_ : Unit) => [.dead, vl (z1 : (R3 (List Tt) (List Tt) (List (Tt × Tt)))), .dead, .dead, .dead, vl (z5.1 : WebD), .dead, vl (z11 : (List Tt)), vl (s16 : (List (Int × Int))), .dead, vl (z32 : Tt), .dead, .dead, .dead, .dead, .dead, .dead, .dead, .dead])) (xt_eq (xt_ofC (xc_neD d.toCok (xe_ofN (xn_meth0 d.toCok T.wb (c_Web_edges T) (by decide) (xe_var d.toCok 5 rfl rfl (.inl rfl)))) (xe_var d.toCok 8 rfl rfl (.inl rfl)))) rfl) (xb_one (xb_ret (c := ()) (xe_eq xe_bl rfl) rfl [(1, false), (5, false), (7, false), (8, false), (10, false)] rfl rfl)) (xb_end [] () rfl)) (fun _ => (xb_seq (S1 := Unit) (sto1 := (fun (_ : Unit) => [.dead, vl (z1 : (R3 (List Tt) (List Tt) (List (Tt × Tt)))), .dead, .dead, .dead, vl (z5.1 : WebD), .dead, vl (z11 : (List Tt)), vl (s16 : (List (Int × Int))), .dead, .dead, .dead, .dead, .dead, .dead, .dead, .dead, .dead, .dead])) (xb1_pre [(10, false)] (xb_for (S := Unit) (sto := (fun (_ : Unit) => [.dead, vl (z1 : (R3 (List Tt) (List Tt) (List (Tt × Tt)))), .dead, .dead, .dead, vl (z5.1 : WebD), .dead, vl (z11 : (List Tt)), vl (s16 : (List (Int × Int))), .dead, .dead, .dead, .dead, .dead, .dead, .dead, .dead, .dead, .dead])) d () (xi_eq (xi_list (xe_ofN (xn_meth0 d.toCok T.wb (c_Web_edges T) (by decide) (xe_var d.toCok 5 rfl rfl (.inl rfl))))) rfl) (fun B d => xg_pair d 9 12 rfl (.inl rfl) rfl (.inl rfl)) (fun B d _ x47 => (xb_seq (S1 := Unit) (sto1 := (fun (_ : Unit) => [.dead, vl (z1 : (R3 (List Tt) (List Tt) (List (Tt × Tt)))), .dead, .dead, .dead, vl (z5.1 : WebD), .dead, vl (z11 : (List Tt)), vl (s16 : (List (Int × Int))), vl (x47.1 : Int), .dead, .dead, vl (x47.2 : Int), .dead, .dead, .dead, .dead, .dead, .dead])) (xb_if (S := Unit) (sto := (fun (_ : Unit) => [.dead, vl (z1 : (R3 (List Tt) (List Tt) (List (Tt × Tt)))), .dead, .dead, .dead, vl (z5.1 : WebD), .dead, vl (z11 : (List Tt)), vl (s16 : (List (Int × Int))), vl (x47.1 : Int), .dead, .dead, vl (x47.2 : Int), .dead, .dead, .dead, .dead, .dead, .dead])) (xt_eq (xt_w (xw_or (xt_val (xe_isi (T := "bool") (r := false) d.toCok (xe_var d.toCok 9 rfl rfl (.inl rfl)) rfl T.b_isinstance rfl T.b_bool (by decide +kernel) (by decide +kernel))) (xw_or1 (xt_val (xe_isi (T := "bool") (r := false) d.toCok (xe_var d.toCok 12 rfl rfl (.inl rfl)) rfl T.b_isinstance rfl T.b_bool (by decide +kernel) (by decide +kernel)))))) rfl) (xb_one (xb_ret (c := ()) (xe_eq xe_bl rfl) rfl [(1, false), (5, false), (7, false), (8, false), (9, false), (12, false)] rfl rfl)) (xb_end [] () rfl)) (fun _ => (xb_end [(9, false), (12, false)] () rfl))))) rfl) (fun _ => (xb_seq (S1 := Unit) (sto1 := (fun (_ : Unit) => [.dead, vl (z1 : (R3 (List Tt) (List Tt) (List (Tt × Tt)))), .dead, .dead, .dead, vl (z5.1 : WebD), .dead, vl (z11 : (List Tt)), vl (s16 : (List (Int × Int))), .dead, .dead, .dead, .dead, .dead, .dead, .dead, .dead, .dead, .dead])) (xb_if (S := Unit) (sto := (fun (_ : Unit) => [.dead, vl (z1 : (R3 (List Tt) (List Tt) (List (Tt × Tt)))), .dead, .dead, .dead, vl (z5.1 : WebD), .dead, vl (z11 : (List Tt)), vl (s16 : (List (Int × Int))), .dead, .dead, .dead, .dead, .dead, .dead, .dead, .dead, .dead, .dead])) (xt_eq (xt_ofC (xc_neD d.toCok (xe_r4 (xe_wP d.toCok T.wb (xe_var d.toCok 5 rfl rfl (.inl rfl))) (xe_wG d.toCok T.wb (xe_var d.toCok 5 rfl rfl (.inl rfl))) (xe_ofN (xn_meth0 d.toCok T.wb (c_Web_names T) (by decide) (xe_var d.toCok 5 rfl rfl (.inl rfl)))) (xe_ofN (xn_meth0 d.toCok T.wb (c_Web_suits T) (by decide) (xe_var d.toCok 5 rfl rfl (.inl rfl))))) (xe_r4 (xe_r3a (xe_var d.toCok 1 rfl rfl (.inl rfl))) (xe_ofN (xn_sortT d.toCok (xr_of (xe_r3b (xe_var d.toCok 1 rfl rfl (.inl rfl)))) rfl T.b_sorted)) (xe_var d.toCok 7 rfl rfl (.inr (.inl rfl))) (xe_ofN (xn_sortPT d.toCok (xr_of (xe_r3c (xe_var d.toCok 1 rfl rfl (.inl rfl)))) rfl T.b_sorted))))) rfl) (xb_one (xb_ret (c := ()) (xe_eq xe_bl rfl) rfl [(1, false), (5, false), (7, false), (8, false)] rfl rfl)) (xb_end [] () rfl)) (fun _ => (xb_pseq (sto1 := fun _ => [.dead, vl (z1 : (R3 (List Tt) (List Tt) (List (Tt × Tt)))), .dead, .dead, .dead, vl (z5.1 : WebD), .dead, vl (z11 : (List Tt)), vl (s16 : (List (Int × Int))), .dead, .dead, .dead, .dead, .dead, .dead, .dead, .dead, .dead, .dead]) (xp1_eq (xp_tmpApp d.toCok (xn_meth0 d.toCok T.wb (c_Web_edges T) (by decide) (xe_var d.toCok 5 rfl rfl (.inl rfl))) (show XE _ _ _ _ _ (some ((0 : Int), (0 : Int))) from (xe_tup2 xe_int xe_int))) rfl) (fun _ => (xb_pseq (sto1 := fun _ => [.dead, vl (z1 : (R3 (List Tt) (List Tt) (List (Tt × Tt)))), .dead, .dead, .dead, vl (z5.1 : WebD), .dead, vl (z11 : (List Tt)), vl (s16 : (List (Int × Int))), .dead, .dead, .dead, .dead, .dead, .dead, .dead, .dead, .dead, .dead]) (xp1_eq (xp_tmpApp d.toCok (xn_meth0 d.toCok T.wb (c_Web_names T) (by decide) (xe_var d.toCok 5 rfl rfl (.inl rfl))) (show XE _ _ _ _ _ (some (Tt.mk "zz" (by decide +kernel))) from xe_str)) rfl) (fun _ => (xb_pseq (sto1 := fun _ => [.dead, vl (z1 : (R3 (List Tt) (List Tt) (List (Tt × Tt)))), .dead, .dead, .dead, vl (z5.1 : WebD), .dead, vl (z11 : (List Tt)), vl (s16 : (List (Int × Int))), .dead, .dead, .dead, .dead, .dead, .dead, .dead, .dead, .dead, .dead]) (xp1_eq (xp_tmpApp d.toCok (xn_meth0 d.toCok T.wb (c_Web_suits T) (by decide) (xe_var d.toCok 5 rfl rfl (.inl rfl))) (show XE _ _ _ _ _ (some (Tt.mk "zz" (by decide +kernel))) from xe_str)) rfl) (fun _ => (xb_one (xb_ret (c := ()) (xe_eq (xe_and (xe_ofC (xc_eqD d.toCok (xe_ofN (xn_meth0 d.toCok T.wb (c_Web_edges T) (by decide) (xe_var d.toCok 5 rfl rfl (.inl rfl)))) (xe_var d.toCok 8 rfl rfl (.inl rfl)))) (xe_and (xe_ofC (xc_eqD d.toCok (xe_ofN (xn_meth0 d.toCok T.wb (c_Web_names T) (by decide) (xe_var d.toCok 5 rfl rfl (.inl rfl)))) (xe_var d.toCok 7 rfl rfl (.inr (.inl rfl))))) (xe_and1 (xe_ofC (xc_eqD d.toCok (xe_ofN (xn_meth0 d.toCok T.wb (c_Web_suits T) (by decide) (xe_var d.toCok 5 rfl rfl (.inl rfl)))) (xe_ofN (xn_sortPT d.toCok (xr_of (xe_r3c (xe_var d.toCok 1 rfl rfl (.inl rfl)))) rfl T.b_sorted))))))) rfl) rfl [(1, false), (5, false), (7, false), (8, false)] rfl rfl)))))))))))))))))))))))))) rfl)))))))))))))))))
def Cn (K : PySem.W.Frag) : Nat → Addr
  | 0 => He.ga K "SwapError"
  | 1 => He.ga K "InvalidWeb"
  | 2 => He.ga K "DuplicateName"
  | 3 => He.ga K "UnknownName"
  | 4 => He.ga K "InvalidSuit"
  | 20 => He.ga K "Web"
  | _ => 0
theorem tx_ok {P : Program} {w : World} {K : PySem.W.Frag} {h base : Heap} {mg : Str → Option Value} (X : K.In h) (G : h.Ns mainGlobals mg) (c : He.SaysD HeadT.fa HeadT.fn K) (ce : He.exsB HeadT.exn K = true) : Tx ⟨P, w, K, mg, base, Cn K⟩ where
  xs := exs_ok (Γ := ⟨P, w, K, mg, base, Cn K⟩) (xs := exn) ce (by decide) fun p hp => by
    rcases List.mem_cons.mp hp with rfl | hp
    · rfl
    rcases List.mem_cons.mp hp with rfl | hp
    · rfl
    rcases List.mem_cons.mp hp with rfl | hp
    · rfl
    rcases List.mem_cons.mp hp with rfl | hp
    · rfl
    rcases List.mem_cons.mp hp with rfl | hp
    · rfl
    exact absurd hp (by simp)
  wb := wb_ok (Γ := ⟨P, w, K, mg, base, Cn K⟩) (y := "Web") rfl (c.fact 14 (f := .cls "Web") rfl) (c.fact 15 (f := .noat "Web" "pairs") rfl) (c.fact 16 (f := .noat "Web" "givers") rfl) (c.fact 17 (f := .noat "Web" "_suits") rfl)
  d_is_name := def_ok (st := HeadT.top 9) (c.def_ 0 (d := HeadT.D_is_name) rfl).choose_spec (He.glo_ok X G (c.fact 12 (f := .glo "is_name") rfl)) fun _ _ _ _ _ _ us hl => match us, hl with | [_], _ => rfl
  d_Web__add_suit := defM_ok (Γ := ⟨P, w, K, mg, base, Cn K⟩) (y := "Web") (st := HeadT.mth 10 1) (c.def_ 2 (d := HeadT.D_Web__add_suit) rfl).choose_spec rfl rfl (c.fact 20 (f := .meth "Web" "_add_suit") rfl) fun _ _ _ _ _ _ us hl => match us, hl with | [_, _, _], _ => rfl
  d_Web___init__ := defC_ok (Γ := ⟨P, w, K, mg, base, Cn K⟩) (st := HeadT.mth 10 0) (c.def_ 1 (d := HeadT.D_Web___init__) rfl).choose_spec rfl rfl (c.fact 18 (f := .mkr "Web") rfl) (He.glo_ok X G (c.fact 13 (f := .glo "Web") rfl)) fun _ _ _ _ _ _ us hl => match us, hl with | [_, _, _, _], _ => rfl
  d_Web_names := defM_ok (Γ := ⟨P, w, K, mg, base, Cn K⟩) (y := "Web") (st := HeadT.mth 10 2) (c.def_ 3 (d := HeadT.D_Web_names) rfl).choose_spec rfl rfl (c.fact 21 (f := .meth "Web" "names") rfl) fun _ _ _ _ _ _ us hl => match us, hl with | [_], _ => rfl
  d_Web_suits := defM_ok (Γ := ⟨P, w, K, mg, base, Cn K⟩) (y := "Web") (st := HeadT.mth 10 3) (c.def_ 4 (d := HeadT.D_Web_suits) rfl).choose_spec rfl rfl (c.fact 22 (f := .meth "Web" "suits") rfl) fun _ _ _ _ _ _ us hl => match us, hl with | [_], _ => rfl
  d_Web_does_suit := defM_ok (Γ := ⟨P, w, K, mg, base, Cn K⟩) (y := "Web") (st := HeadT.mth 10 4) (c.def_ 5 (d := HeadT.D_Web_does_suit) rfl).choose_spec rfl rfl (c.fact 23 (f := .meth "Web" "does_suit") rfl) fun _ _ _ _ _ _ us hl => match us, hl with | [_, _, _], _ => rfl
  d_Web_may_meet := defM_ok (Γ := ⟨P, w, K, mg, base, Cn K⟩) (y := "Web") (st := HeadT.mth 10 5) (c.def_ 6 (d := HeadT.D_Web_may_meet) rfl).choose_spec rfl rfl (c.fact 24 (f := .meth "Web" "may_meet") rfl) fun _ _ _ _ _ _ us hl => match us, hl with | [_, _, _], _ => rfl
  d_Web_edges := defM_ok (Γ := ⟨P, w, K, mg, base, Cn K⟩) (y := "Web") (st := HeadT.mth 10 6) (c.def_ 7 (d := HeadT.D_Web_edges) rfl).choose_spec rfl rfl (c.fact 25 (f := .meth "Web" "edges") rfl) fun _ _ _ _ _ _ us hl => match us, hl with | [_], _ => rfl
  d__law_cell := def_ok (st := HeadT.top 12) (c.def_ 8 (d := HeadT.D__law_cell) rfl).choose_spec (He.glo_ok X G (c.fact 26 (f := .glo "_law_cell") rfl)) fun _ _ _ _ _ _ us hl => match us, hl with | [_, _], _ => rfl
  d__law_words := def_ok (st := HeadT.top 13) (c.def_ 9 (d := HeadT.D__law_words) rfl).choose_spec (He.glo_ok X G (c.fact 27 (f := .glo "_law_words") rfl)) fun _ _ _ _ _ _ us hl => match us, hl with | [_, _], _ => rfl
  d__law_web := def_ok (st := HeadT.top 14) (c.def_ 10 (d := HeadT.D__law_web) rfl).choose_spec (He.glo_ok X G (c.fact 28 (f := .glo "_law_web") rfl)) fun _ _ _ _ _ _ us hl => match us, hl with | [_, _], _ => rfl
  d__law_meet := def_ok (st := HeadT.top 15) (c.def_ 11 (d := HeadT.D__law_meet) rfl).choose_spec (He.glo_ok X G (c.fact 29 (f := .glo "_law_meet") rfl)) fun _ _ _ _ _ _ us hl => match us, hl with | [_, _, _], _ => rfl
  d__law_turned := def_ok (st := HeadT.top 21) (c.def_ 17 (d := HeadT.D__law_turned) rfl).choose_spec (He.glo_ok X G (c.fact 35 (f := .glo "_law_turned") rfl)) fun _ _ _ _ _ _ us hl => match us, hl with | [_, _], _ => rfl
  g_MOST_NAMES := He.int_ok X G (c.fact 10 (f := .int "MOST_NAMES" 16) rfl)
  g_LETTERS := He.str_ok X G (c.fact 11 (f := .str "LETTERS" "abcdefghijklmnopqrstuvwxyz") rfl)
  x_SwapError := ext_ok (h := h) X G rfl (c.fact 0 (f := .glo "SwapError") rfl) (c.fact 1 (f := .exc "SwapError") rfl)
  x_InvalidWeb := ext_ok (h := h) X G rfl (c.fact 2 (f := .glo "InvalidWeb") rfl) (c.fact 3 (f := .exc "InvalidWeb") rfl)
  x_DuplicateName := ext_ok (h := h) X G rfl (c.fact 4 (f := .glo "DuplicateName") rfl) (c.fact 5 (f := .exc "DuplicateName") rfl)
  x_UnknownName := ext_ok (h := h) X G rfl (c.fact 6 (f := .glo "UnknownName") rfl) (c.fact 7 (f := .exc "UnknownName") rfl)
  x_InvalidSuit := ext_ok (h := h) X G rfl (c.fact 8 (f := .glo "InvalidSuit") rfl) (c.fact 9 (f := .exc "InvalidSuit") rfl)
  b_bool := He.free_ok X G (c.fact 37 (f := .free "bool") rfl)
  b_len := He.free_ok X G (c.fact 38 (f := .free "len") rfl)
  b_range := He.free_ok X G (c.fact 39 (f := .free "range") rfl)
  b_list := He.free_ok X G (c.fact 40 (f := .free "list") rfl)
  b_int := He.free_ok X G (c.fact 41 (f := .free "int") rfl)
  b_sorted := He.free_ok X G (c.fact 42 (f := .free "sorted") rfl)
  b_enumerate := He.free_ok X G (c.fact 43 (f := .free "enumerate") rfl)
  b_isinstance := He.free_ok X G (c.fact 44 (f := .free "isinstance") rfl)
  b_min := He.free_ok X G (c.fact 45 (f := .free "min") rfl)
  b_max := He.free_ok X G (c.fact 46 (f := .free "max") rfl)
  b_abs := He.free_ok X G (c.fact 47 (f := .free "abs") rfl)
  b_reversed := He.free_ok X G (c.fact 48 (f := .free "reversed") rfl)
  b_str := He.free_ok X G (c.fact 49 (f := .free "str") rfl)
  b_tuple := He.free_ok X G (c.fact 50 (f := .free "tuple") rfl)
  b_repr := He.free_ok X G (c.fact 51 (f := .free "repr") rfl)
  b_ValueError := He.free_ok X G (c.fact 52 (f := .free "ValueError") rfl)
  b_all := He.free_ok X G (c.fact 53 (f := .free "all") rfl)
  b_zip := He.free_ok X G (c.fact 54 (f := .free "zip") rfl)
  b_super := He.free_ok X G (c.fact 55 (f := .free "super") rfl)
end Sim
namespace Sim
abbrev TT := Tt
end Sim
namespace Bl
structure Gk (V : List Int) (E : Int → Int → Prop) : Prop where
  nd : V.Nodup
  sym : ∀ u v, E u v → E v u
  irr : ∀ u, ¬ E u u
  inn : ∀ u v, E u v → u ∈ V
structure Mt (V : List Int) (E : Int → Int → Prop) (f : Int → Int) : Prop where
  inv : ∀ v ∈ V, f (f v) = v
  inn : ∀ v ∈ V, f v ∈ V
  ed : ∀ v ∈ V, f v ≠ v → E v (f v)
def un (f : Int → Int) (v : Int) : Bool := decide (f v = v)
def df (V : List Int) (f : Int → Int) : Nat := V.countP (un f)
theorem un_t {f : Int → Int} {v : Int} : un f v = true ↔ f v = v := by simp [un]
theorem nd_filter {l : List Int} (p : Int → Bool) (h : l.Nodup) : (l.filter p).Nodup := List.Pairwise.filter p h
theorem even_inv (f : Int → Int) : ∀ (n : Nat) (L : List Int), L.length = n → L.Nodup → (∀ v ∈ L, f v ∈ L ∧ f (f v) = v ∧ f v ≠ v) → n % 2 = 0 := by
  intro n
  induction n using Nat.strongRecOn with
  | ind n ih =>
    intro L hl nd h
    cases L with
    | nil => simp at hl; omega
    | cons v r =>
      have hv := h v List.mem_cons_self
      have hfr : f v ∈ r := by
        rcases List.mem_cons.mp hv.1 with e | e
        · exact absurd e hv.2.2
        · exact e
      have nd' := List.nodup_cons.mp nd
      have nr := nd'.2
      have lr := List.length_erase_of_mem hfr
      have hp : 0 < r.length := List.length_pos_of_mem hfr
      simp at hl
      have := ih (n-2) (by omega) (r.erase (f v)) (by omega) (nr.erase _) (fun w hw => by
        have hw' := (nr.mem_erase_iff).mp hw
        have a := h w (List.mem_cons_of_mem _ hw'.2)
        refine ⟨nr.mem_erase_iff.mpr ⟨?_, ?_⟩, a.2.1, a.2.2⟩
        · intro e
          have : w = v := by rw [← a.2.1, e, hv.2.1]
          exact nd'.1 (this ▸ hw'.2)
        · rcases List.mem_cons.mp a.1 with e | e
          · exact absurd (by rw [← a.2.1, e]) hw'.1
          · exact e)
      omega
theorem countP_or_and (V : List Int) (p q : Int → Bool) : V.countP (fun v => p v || q v) + V.countP (fun v => p v && q v) = V.countP p + V.countP q := by
  induction V with
  | nil => rfl
  | cons v r ih =>
    simp only [List.countP_cons]
    cases p v <;> cases q v <;> simp <;> omega
section
variable {V : List Int} {E : Int → Int → Prop} {A : Int → Bool} {c : Int → Int}
def Cls (A : Int → Bool) (c : Int → Int) (l : Int) (v : Int) : Bool := !A v && decide (c v = l)
theorem cls_t {l v : Int} : Cls A c l v = true ↔ A v = false ∧ c v = l := by simp [Cls]
theorem exists_out (nd : V.Nodup) {f : Int → Int} (m : Mt V E f) (cl : ∀ u v, E u v → A u = false → A v = false → c u = c v) {l : Int} (odd : V.countP (Cls A c l) % 2 = 1) :
    ∃ v, v ∈ V ∧ A v = false ∧ c v = l ∧ (f v = v ∨ A (f v) = true) := by
  apply Classical.byContradiction
  intro hn
  have h : ∀ v ∈ V, A v = false → c v = l → f v ≠ v ∧ A (f v) = false := fun v hv h1 h2 => ⟨fun e => hn ⟨v, hv, h1, h2, .inl e⟩, by
    cases e : A (f v) with
    | false => rfl
    | true => exact absurd ⟨v, hv, h1, h2, .inr e⟩ hn⟩
  have := even_inv f _ (V.filter (Cls A c l)) rfl (nd_filter _ nd) fun v hv => by
    have hv' := List.mem_filter.mp hv
    have hc := cls_t.mp hv'.2
    have q := h v hv'.1 hc.1 hc.2
    refine ⟨List.mem_filter.mpr ⟨m.inn v hv'.1, cls_t.mpr ⟨q.2, ?_⟩⟩, m.inv v hv'.1, q.1⟩
    rw [← hc.2]
    exact (cl v (f v) (m.ed v hv'.1 q.1) hc.1 q.2).symm
  rw [← List.countP_eq_length_filter] at this
  omega
theorem pick (nd : V.Nodup) {f : Int → Int} (m : Mt V E f) (cl : ∀ u v, E u v → A u = false → A v = false → c u = c v) : ∀ (Ls : List Int), Ls.Nodup → (∀ l ∈ Ls, V.countP (Cls A c l) % 2 = 1) →
    ∃ ws : List Int, ws.length = Ls.length ∧ ws.Nodup ∧ ∀ x ∈ ws, x ∈ V ∧ (un f x || A x) = true ∧ c (f x) ∈ Ls
  | [], _, _ => ⟨[], rfl, List.nodup_nil, fun x hx => by simp at hx⟩
  | l :: r, h1, h2 => by
    obtain ⟨ws, q1, q2, q3⟩ := pick nd m cl r (List.nodup_cons.mp h1).2 fun x hx => h2 x (List.mem_cons_of_mem _ hx)
    obtain ⟨v, hv, ha, hc, ho⟩ := exists_out nd m cl (h2 l List.mem_cons_self)
    refine ⟨f v :: ws, by simp [q1], List.nodup_cons.mpr ⟨fun hm => ?_, q2⟩, fun x hx => ?_⟩
    · have := (q3 _ hm).2.2
      rw [m.inv v hv, hc] at this
      exact (List.nodup_cons.mp h1).1 this
    · rcases List.mem_cons.mp hx with e | e
      · subst e
        refine ⟨m.inn v hv, ?_, by rw [m.inv v hv, hc]; exact List.mem_cons_self⟩
        rcases ho with o | o
        · rw [un_t.mpr (by rw [o, o])]; rfl
        · rw [o]; simp
      · have := q3 x e
        exact ⟨this.1, this.2.1, List.mem_cons_of_mem _ this.2.2⟩
theorem tight {f : Int → Int} (nd : V.Nodup) (m : Mt V E f) (cl : ∀ u v, E u v → A u = false → A v = false → c u = c v) {Ls : List Int} (h1 : Ls.Nodup) (h2 : ∀ l ∈ Ls, V.countP (Cls A c l) % 2 = 1)
    (ht : Ls.length = df V f + V.countP A) : ∀ v ∈ V, f v = v → A v = false ∧ c v ∈ Ls := by
  intro v hv hf
  obtain ⟨ws, q1, q2, q3⟩ := pick nd m cl Ls h1 h2
  have h : ws ⊆ V.filter fun v => un f v || A v := fun x hx => List.mem_filter.mpr ⟨(q3 x hx).1, (q3 x hx).2.1⟩
  have hl := q2.length_le_of_subset h
  rw [← List.countP_eq_length_filter] at hl
  have e := countP_or_and V (un f) A
  have z : V.countP (fun v => un f v && A v) = 0 := by unfold df at ht; omega
  have ha : A v = false := by
    cases q : A v with
    | false => rfl
    | true => exact absurd z (Nat.pos_iff_ne_zero.mp (List.countP_pos_iff.mpr ⟨v, hv, by simp [q, un_t.mpr hf]⟩))
  refine ⟨ha, ?_⟩
  have hm : v ∈ ws := by
    apply Classical.byContradiction
    intro hn
    have h' : (v :: ws) ⊆ V.filter fun v => un f v || A v := fun x hx => by
      rcases List.mem_cons.mp hx with e | e
      · subst e; exact List.mem_filter.mpr ⟨hv, by simp [un_t.mpr hf]⟩
      · exact h e
    have hl' := (List.nodup_cons.mpr ⟨hn, q2⟩ : (v :: ws).Nodup).length_le_of_subset h'
    rw [← List.countP_eq_length_filter] at hl'
    simp at hl'
    unfold df at ht
    omega
  have := (q3 v hm).2.2
  rwa [hf] at this
end
structure Cert (V : List Int) (E : Int → Int → Prop) (f : Int → Int) (A : Int → Bool) (c : Int → Int) (Ls : List Int) : Prop where
  nd : Ls.Nodup
  cl : ∀ u v, E u v → A u = false → A v = false → c u = c v
  odd : ∀ l ∈ Ls, V.countP (Cls A c l) % 2 = 1
  tgt : Ls.length = df V f + V.countP A
  mis : ∀ v ∈ V, A v = false → c v ∈ Ls → ∃ g, Mt V E g ∧ df V g = df V f ∧ g v = v
  tch : ∀ a ∈ V, A a = true → ∃ d ∈ V, E a d ∧ A d = false ∧ c d ∈ Ls
theorem Cert.ms {V : List Int} {E : Int → Int → Prop} {f g : Int → Int} {A : Int → Bool} {c : Int → Int} {Ls : List Int} (nd : V.Nodup) (h : Cert V E f A c Ls) (m : Mt V E g) (e : df V g = df V f) {v : Int} (hv : v ∈ V) (hg : g v = v) : A v = false ∧ c v ∈ Ls :=
  tight nd m h.cl h.nd h.odd (by rw [e]; exact h.tgt) v hv hg
def Stp (E : Int → Int → Prop) (f : Int → Int) (k : Nat) (x y : Int) : Prop := if k % 2 = 0 then E x y else f x = y
def Alt (E : Int → Int → Prop) (f : Int → Int) : Nat → List Int → Prop
  | k, x :: y :: r => Stp E f k x y ∧ Alt E f (k + 1) (y :: r)
  | _, _ => True
section
variable {E : Int → Int → Prop} {f : Int → Int}
theorem Alt.mono {f' : Int → Int} {E' : Int → Int → Prop} : ∀ {xs : List Int} {k : Nat}, (∀ x ∈ xs, ∀ y ∈ xs, E x y → E' x y) → (∀ x ∈ xs, ∀ y ∈ xs, f x = y → f' x = y) → Alt E f k xs → Alt E' f' k xs
  | [], _, _, _, _ => trivial
  | [_], _, _, _, _ => trivial
  | x :: y :: r, k, h1, h2, a => by
    refine ⟨?_, Alt.mono (fun u hu v hv => h1 u (List.mem_cons_of_mem _ hu) v (List.mem_cons_of_mem _ hv)) (fun u hu v hv => h2 u (List.mem_cons_of_mem _ hu) v (List.mem_cons_of_mem _ hv)) a.2⟩
    have a1 := a.1
    unfold Stp at a1 ⊢
    split at a1
    · rw [if_pos ‹_›]; exact h1 _ (by simp) _ (by simp) a1
    · rw [if_neg ‹_›]; exact h2 _ (by simp) _ (by simp) a1
theorem Alt.cons1 {k : Nat} {x : Int} {xs : List Int} (h : Alt E f k (x :: xs)) : Alt E f (k + 1) xs := by
  cases xs with
  | nil => trivial
  | cons y r => exact h.2
theorem Alt.left : ∀ {xs ys : List Int} {k : Nat}, Alt E f k (xs ++ ys) → Alt E f k xs
  | [], _, _, _ => trivial
  | [_], _, _, _ => trivial
  | x :: y :: r, ys, k, h => ⟨h.1, Alt.left (xs := y :: r) (ys := ys) h.2⟩
end
theorem alt_f {E : Int → Int → Prop} {f : Int → Int} : ∀ {L : List Int} {k : Nat} {v : Int}, k % 2 = 1 → L.length % 2 = 0 → (∀ x ∈ L, f (f x) = x) → Alt E f k L → v ∈ L → f v ∈ L
  | [], _, _, _, _, _, _, h => by simp at h
  | [_], _, _, _, h, _, _, _ => by simp at h
  | a :: b :: r, k, v, hk, hl, hf, ha, h => by
    have := ha.1
    unfold Stp at this
    rw [if_neg (by omega)] at this
    by_cases h1 : v = a
    · subst h1; rw [this]; simp
    · by_cases h2 : v = b
      · subst h2; rw [← this, hf a (by simp)]; simp
      · have hr : v ∈ r := by simpa [h1, h2] using h
        have := alt_f (k := k + 2) (by omega) (by simp at hl; omega) (fun x hx => hf x (by simp [hx])) (Alt.cons1 ha.2) hr
        simp [this]
end Bl
namespace Bl
theorem mem_out {V R : List Int} {v : Int} : v ∈ V.filter (fun v => !decide (v ∈ R)) ↔ v ∈ V ∧ v ∉ R := by
  rw [List.mem_filter]; simp
section
variable {V : List Int} {E : Int → Int → Prop} {f : Int → Int}
theorem alt_ne : ∀ {L : List Int} {k : Nat} {v : Int}, k % 2 = 1 → L.length % 2 = 0 → L.Nodup → (∀ x ∈ L, f (f x) = x) → Alt E f k L → v ∈ L → f v ≠ v
  | [], _, _, _, _, _, _, _, h => by simp at h
  | [_], _, _, _, h, _, _, _, _ => by simp at h
  | a :: b :: r, k, v, hk, hl, nd, hf, ha, h => by
    have := ha.1
    unfold Stp at this
    rw [if_neg (by omega)] at this
    have hd := List.nodup_cons.mp nd
    have hab : a ≠ b := fun e => hd.1 (by simp [e])
    by_cases h1 : v = a
    · subst h1; rw [this]; exact Ne.symm hab
    · by_cases h2 : v = b
      · subst h2; rw [← this, hf a (by simp), this]; exact hab
      · have hr : v ∈ r := by simpa [h1, h2] using h
        exact alt_ne (k := k + 2) (by omega) (by simp at hl; omega) (List.nodup_cons.mp hd.2).2 (fun x hx => hf x (by simp [hx])) (Alt.cons1 ha.2) hr
structure Ring (V : List Int) (E : Int → Int → Prop) (f : Int → Int) (b : Int) (R' : List Int) : Prop where
  nd : (b :: R').Nodup
  sub : ∀ x ∈ b :: R', x ∈ V
  ev : R'.length % 2 = 0
  alt : Alt E f 0 (b :: (R' ++ [b]))
  ge : 2 ≤ R'.length
structure Shr (V : List Int) (E : Int → Int → Prop) (R : List Int) (n : Int) (V' : List Int) (E' : Int → Int → Prop) : Prop where
  nn : n ∉ V
  nd : V'.Nodup
  mem : ∀ x, x ∈ V' ↔ x = n ∨ (x ∈ V ∧ x ∉ R)
  e1 : ∀ u v, u ≠ n → v ≠ n → (E' u v ↔ E u v ∧ u ∉ R ∧ v ∉ R)
  e2 : ∀ v, E' n v ↔ v ∉ R ∧ ∃ x ∈ R, E x v
  e3 : ∀ v, E' v n ↔ E' n v
def AllE (E : Int → Int → Prop) : List Int → Prop
  | x :: y :: r => E x y ∧ AllE E (y :: r)
  | _ => True
theorem AllE.left : ∀ {xs ys : List Int}, AllE E (xs ++ ys) → AllE E xs
  | [], _, _ => trivial
  | [_], _, _ => trivial
  | x :: y :: r, ys, h => ⟨h.1, AllE.left (xs := y :: r) (ys := ys) h.2⟩
variable {R R' V' : List Int} {n b : Int} {E' : Int → Int → Prop}
theorem Shr.perm (S : Shr V E R n V' E') (nV : V.Nodup) : V'.Perm (n :: V.filter (fun v => !decide (v ∈ R))) := by
  refine (List.perm_ext_iff_of_nodup S.nd ?_).mpr fun a => ?_
  · exact List.nodup_cons.mpr ⟨fun h => S.nn (mem_out.mp h).1, nd_filter _ nV⟩
  · rw [S.mem, List.mem_cons, mem_out]
theorem Shr.gk (S : Shr V E R n V' E') (G : Gk V E) : Gk V' E' := by
  have ne : ∀ u v, E u v → u ≠ n := fun u v h e => S.nn (e ▸ G.inn u v h)
  have ne2 : ∀ u v, E u v → v ≠ n := fun u v h => ne v u (G.sym u v h)
  have hn : ∀ v, E' n v → v ∈ V ∧ v ∉ R := fun v h => by
    obtain ⟨h1, x, hx, h2⟩ := (S.e2 v).mp h
    exact ⟨G.inn v x (G.sym _ _ h2), h1⟩
  refine ⟨S.nd, fun u v h => ?_, fun u h => ?_, fun u v h => ?_⟩
  · by_cases h1 : u = n
    · subst h1; exact (S.e3 v).mpr h
    · by_cases h2 : v = n
      · subst h2; exact (S.e3 u).mp h
      · have := (S.e1 u v h1 h2).mp h
        exact (S.e1 v u h2 h1).mpr ⟨G.sym _ _ this.1, this.2.2, this.2.1⟩
  · by_cases h1 : u = n
    · rw [h1] at h
      exact S.nn (hn n h).1
    · exact G.irr u ((S.e1 u u h1 h1).mp h).1
  · rw [S.mem]
    by_cases h1 : u = n
    · exact .inl h1
    · by_cases h2 : v = n
      · rw [h2] at h
        exact .inr (hn u ((S.e3 u).mp h))
      · have := (S.e1 u v h1 h2).mp h
        exact .inr ⟨G.inn u v this.1, this.2.1⟩
end
end Bl
namespace Bl
section
variable {V : List Int} {E : Int → Int → Prop} {f : Int → Int} {R R' V' : List Int} {n b : Int} {E' : Int → Int → Prop}
theorem Ring.cl (m : Mt V E f) (h : Ring V E f b R') : ∀ x ∈ R', f x ∈ R' ∧ f x ≠ x := by
  have a : Alt E f 1 R' := Alt.left (ys := [b]) (Alt.cons1 h.alt)
  have nd := (List.nodup_cons.mp h.nd).2
  have inv : ∀ x ∈ R', f (f x) = x := fun x hx => m.inv x (h.sub x (by simp [hx]))
  exact fun x hx => ⟨alt_f (by omega) h.ev inv a hx, alt_ne (by omega) h.ev nd inv a hx⟩
structure Aug (V : List Int) (E : Int → Int → Prop) (f : Int → Int) (P : List Int) : Prop where
  nd : P.Nodup
  sub : ∀ x ∈ P, x ∈ V
  ev : P.length % 2 = 0
  ne : P ≠ []
  alt : Alt E f 0 P
  hd : ∀ x, P.head? = some x → f x = x
  lst : ∀ x, P.getLast? = some x → f x = x
end
end Bl
namespace Bl
section
variable {V : List Int} {E : Int → Int → Prop} {f : Int → Int}
end
end Bl
namespace Bl
section
variable {E : Int → Int → Prop}
end
end Bl
namespace Bl
section
variable {V : List Int} {E E' : Int → Int → Prop} {f : Int → Int}
end
end Bl
namespace Bl
section
variable {α : Type}
end
section
variable {V : List Int} {E E' : Int → Int → Prop} {f : Int → Int}
end
end Bl
namespace Bl
section
variable {α : Type} [DecidableEq α] {E : α → α → Prop} {N : List α}
end
end Bl
namespace Bl
section
variable {α : Type} [DecidableEq α] {E : α → α → Prop} {N : List α}
variable {U : List α} {c c' : List α → Bool}
end
end Bl
namespace Bl
section
variable {α : Type} [DecidableEq α] {U : List α} {c c' : List α → Bool}
end
end Bl
namespace Sim
open PySem L2
theorem look_some_mem {κ α : Type} [DecidableEq κ] {d : List (κ × α)} {x : κ} : (look d x).isSome = true ↔ x ∈ d.map (·.1) := by
  induction d with
  | nil => simp [look]
  | cons q r ih =>
    by_cases e : q.1 = x
    · rw [look_pos e]; simp [e]
    · rw [look_neg e, ih]; simp [Ne.symm e]
theorem look_none_mem {κ α : Type} [DecidableEq κ] {d : List (κ × α)} {x : κ} : look d x = none ↔ x ∉ d.map (·.1) := by
  rw [← look_some_mem]
  cases look d x <;> simp
theorem put_keys' {κ α : Type} [DecidableEq κ] (d : List (κ × α)) (k : κ) (v : α) : (put d k v).map (·.1) = if k ∈ d.map (·.1) then d.map (·.1) else d.map (·.1) ++ [k] := by
  unfold put
  have e : (d.any fun kv => decide (kv.1 = k)) = true ↔ k ∈ d.map (·.1) := by
    simp [List.any_eq_true]
  by_cases h : k ∈ d.map (·.1)
  · rw [if_pos (e.mpr h), if_pos h, List.map_map]
    refine List.map_congr_left fun kv _ => ?_
    simp only [Function.comp]
    split <;> rfl
  · rw [if_neg (fun z => h (e.mp z)), if_neg h]; simp
theorem dput_ok {κ α : Type} [DecidableEq κ] {d : List (κ × α)} {k : κ} {v : α} (h : d.length + 1 ≤ BIG) : dput d k v = some (put d k v) := by unfold dput; rw [if_pos h]
theorem push_ok {α : Type} {xs : List α} {x : α} (h : xs.length + 1 ≤ BIG) : push xs x = some (xs ++ [x]) := by unfold push; rw [if_pos h]
theorem pcat_ok {α : Type} {xs ys : List α} (h : xs.length + ys.length ≤ BIG) : pcat xs ys = some (xs ++ ys) := by unfold pcat; rw [if_pos h]
theorem pmod_ok {i j : Int} (h : 0 < j) : pmod i j = some (i % j) := by unfold pmod; rw [if_pos h]
theorem pdiv_ok {i j : Int} (h : 0 < j) (h2 : j.natAbs < 1073741824) : pdiv i j = some (i / j) := by unfold pdiv; rw [if_pos ⟨h, h2⟩]
theorem pmul_ok {i j : Int} (h : i.natAbs < 2 ^ 64 ∨ j.natAbs < 2 ^ 64) : pmul i j = some (i * j) := by unfold pmul; rw [if_pos h]
theorem prange_ok {i j : Int} (h : i.natAbs < 2 ^ 62) (h2 : j.natAbs < 2 ^ 62) : prange i j = some (rangeL i j) := by unfold prange; rw [if_pos ⟨h, h2⟩]
theorem ppopAt_ok {α : Type} {xs : List α} {i : Nat} {y : α} (h : xs.length ≤ BIG) (e : xs[i]? = some y) : ppopAt xs (i : Int) = some (y, xs.eraseIdx i) := by
  unfold ppopAt
  rw [if_pos ⟨by omega, h⟩, Int.toNat_natCast, e]
  rfl
theorem isIn_iff {α : Type} [DecidableEq α] {x : α} {xs : List α} : isIn x xs = true ↔ x ∈ xs := by simp [isIn]
theorem forP_inv {S α : Type} {f : S → α → Option S} {xs : List α} (I : List α → S → Prop) (hs : ∀ dn x rs s, xs = dn ++ x :: rs → I dn s → ∃ s', f s x = some s' ∧ I (dn ++ [x]) s') {s0 : S} (h0 : I [] s0) : ∃ s', forP f s0 xs = some s' ∧ I xs s' := by
  have : ∀ (rs dn : List α) (s : S), xs = dn ++ rs → I dn s → ∃ s', forP f s rs = some s' ∧ I xs s' := by
    intro rs
    induction rs with
    | nil => intro dn s e h; rw [List.append_nil] at e; subst e; exact ⟨s, rfl, h⟩
    | cons x r ih =>
      intro dn s e h
      obtain ⟨s1, e1, h1⟩ := hs dn x r s e h
      obtain ⟨s2, e2, h2⟩ := ih (dn ++ [x]) s1 (by rw [e]; simp) h1
      exact ⟨s2, by show (f s x).bind _ = _; rw [e1]; exact e2, h2⟩
  exact this xs [] s0 rfl h0
theorem lcM_ok {α γ : Type} {t : α → Option Bool} {f : α → Option γ} {t' : α → Bool} {f' : α → γ} : ∀ {xs : List α}, (∀ x ∈ xs, t x = some (t' x)) → (∀ x ∈ xs, t' x = true → f x = some (f' x)) → lcM t f xs = some ((xs.filter t').map f')
  | [], _, _ => rfl
  | x :: r, ht, hf => by
    have ih := lcM_ok (xs := r) (fun y hy => ht y (by simp [hy])) (fun y hy => hf y (by simp [hy]))
    unfold lcM
    rw [ht x (by simp)]
    show (if t' x = true then _ else _) = _
    by_cases h : t' x = true
    · rw [if_pos h, hf x (by simp) h, ih]
      simp [h]
    · rw [if_neg h, ih]
      simp [h]
theorem lcB_ok {α γ : Type} {t : α → Option Bool} {f : α → Option γ} {xs : List α} (t' : α → Bool) (f' : α → γ) (hl : xs.length ≤ BIG) (ht : ∀ x ∈ xs, t x = some (t' x)) (hf : ∀ x ∈ xs, t' x = true → f x = some (f' x)) : lcB t f xs = some ((xs.filter t').map f') := by
  unfold lcB
  rw [if_pos hl]
  exact lcM_ok ht hf
theorem atI_nat {α : Type} {xs : List α} {i : Nat} {x : α} (e : xs[i]? = some x) : atI xs (i : Int) = some x := by
  have h : i < xs.length := (List.getElem?_eq_some_iff.mp e).1
  unfold atI ixN
  rw [if_pos (by omega)]
  simp only [Int.toNat_natCast]
  rw [if_pos (by omega)]
  exact e
end Sim
namespace Sim
open PySem L2
def Gets {α : Type} (o : Option α) (Q : α → Prop) : Prop := ∃ r, o = some r ∧ Q r
def FQ {S S' L β C : Type} (N : S → Prop) (Q : Fl S' L β C → Prop) : Fl S L β C → Prop
  | .nx s => N s
  | .bk l => Q (.bk l)
  | .ct l => Q (.ct l)
  | .ret b c => Q (.ret b c)
  | .err e c => Q (.err e c)
def LQ {S L β C : Type} (N : S → Prop) (Q : Fl S L β C → Prop) : Fl S S β C → Prop
  | .nx s => N s
  | .ct s => N s
  | .bk s => Q (.nx s)
  | .ret b c => Q (.ret b c)
  | .err e c => Q (.err e c)
section
variable {α β γ S S1 S2 L C : Type}
theorem gets_some {x : α} {Q : α → Prop} (q : Q x) : Gets (some x) Q := ⟨x, rfl, q⟩
theorem gets_eq {o : Option α} {x : α} {Q : α → Prop} (e : o = some x) (q : Q x) : Gets o Q := ⟨x, e, q⟩
theorem gets_mono {o : Option α} {Q Q' : α → Prop} (h : Gets o Q) (k : ∀ x, Q x → Q' x) : Gets o Q' := by
  obtain ⟨x, e, q⟩ := h
  exact ⟨x, e, k x q⟩
theorem gets_bind {o : Option α} {k : α → Option β} {Q : β → Prop} (h : Gets o fun x => Gets (k x) Q) : Gets (o.bind k) Q := by
  obtain ⟨x, e, y, e2, q⟩ := h
  exact ⟨y, by rw [e]; exact e2, q⟩
theorem gets_step {o : Option α} {x : α} {k : α → Option β} {Q : β → Prop} (e : o = some x) (h : Gets (k x) Q) : Gets (o.bind k) Q := by
  rw [e]; exact h
theorem gets_flb {m1 : Option (Fl S1 L β C)} {m2 : S1 → Option (Fl S2 L β C)} {Q : Fl S2 L β C → Prop} (h : Gets m1 (FQ (fun s => Gets (m2 s) Q) Q)) : Gets (flb m1 m2) Q := by
  obtain ⟨x, e, q⟩ := h
  unfold flb
  rw [e]
  cases x with
  | nx s => exact q
  | bk l => exact ⟨_, rfl, q⟩
  | ct l => exact ⟨_, rfl, q⟩
  | ret b c => exact ⟨_, rfl, q⟩
  | err e c => exact ⟨_, rfl, q⟩
theorem gets_if {b : Bool} {x y : Option α} {Q : α → Prop} (h1 : b = true → Gets x Q) (h2 : b = false → Gets y Q) : Gets (if b = true then x else y) Q := by
  cases b with
  | true => exact h1 rfl
  | false => exact h2 rfl
theorem gets_forP {f : S → α → Option S} {xs : List α} {s0 : S} {Q : S → Prop} (I : List α → S → Prop) (h0 : I [] s0) (hs : ∀ dn x rs s, xs = dn ++ x :: rs → I dn s → Gets (f s x) (I (dn ++ [x]))) (hq : ∀ s, I xs s → Q s) : Gets (forP f s0 xs) Q := by
  obtain ⟨s, e, q⟩ := forP_inv (xs := xs) I hs h0
  exact ⟨s, e, hq s q⟩
theorem gets_forF {f : S → α → Option (Fl S S β C)} {xs : List α} {s0 : S} {Q : Fl S L β C → Prop} (I : List α → S → Prop) (h0 : I [] s0) (hs : ∀ dn x rs s, xs = dn ++ x :: rs → I dn s → Gets (f s x) (LQ (I (dn ++ [x])) Q)) (hq : ∀ s, I xs s → Q (.nx s)) : Gets (forF f s0 xs) Q := by
  have : ∀ (rs dn : List α) (s : S), xs = dn ++ rs → I dn s → Gets (forF (L := L) f s rs) Q := by
    intro rs
    induction rs with
    | nil => intro dn s e h; rw [List.append_nil] at e; subst e; exact ⟨_, rfl, hq s h⟩
    | cons x r ih =>
      intro dn s e h
      obtain ⟨o, e1, h1⟩ := hs dn x r s e h
      show Gets ((f s x).bind _) Q
      rw [e1]
      cases o with
      | nx s1 => exact ih (dn ++ [x]) s1 (by rw [e]; simp) h1
      | ct s1 => exact ih (dn ++ [x]) s1 (by rw [e]; simp) h1
      | bk s1 => exact ⟨_, rfl, h1⟩
      | ret b c => exact ⟨_, rfl, h1⟩
      | err e c => exact ⟨_, rfl, h1⟩
  exact this xs [] s0 rfl h0
end
end Sim
namespace Sim
open PySem L2 Bl
def Chain (u : Int → Option (Option Int)) : List Int → Prop
  | [] => False
  | [x] => u x = some none
  | x :: y :: r => u x = some (some y) ∧ Chain u (y :: r)
theorem Chain.mono {u u' : Int → Option (Option Int)} : ∀ {xs : List Int}, (∀ x ∈ xs, u' x = u x) → Chain u xs → Chain u' xs
  | [], _, h => h
  | [x], k, h => by
    have a : u x = some none := h
    show u' x = some none
    rw [k x (by simp), a]
  | x :: y :: r, k, h => ⟨by rw [k x (by simp)]; exact h.1, Chain.mono (fun z hz => k z (List.mem_cons_of_mem _ hz)) h.2⟩
def nb (d : List (Int × List Int)) (u v : Int) : Prop := ∃ row, look d u = some row ∧ v ∈ row
structure ND (d : List (Int × List Int)) : Prop where
  rows : ∀ v row, look d v = some row → row.Nodup
  gk : Gk (d.map (·.1)) (nb d)
theorem ND.row {d : List (Int × List Int)} (h : ND d) {v : Int} (hv : v ∈ d.map (·.1)) : ∃ row, look d v = some row := by
  have := look_some_mem.mpr hv
  cases q : look d v with
  | none => rw [q] at this; cases this
  | some row => exact ⟨row, rfl⟩
theorem ND.len {d : List (Int × List Int)} (h : ND d) {v : Int} {row : List Int} (e : look d v = some row) : row.length ≤ d.length := by
  have := (h.rows v row e).length_le_of_subset (l₂ := d.map (·.1)) fun x hx => h.gk.inn x v (h.gk.sym v x ⟨row, e, hx⟩)
  simpa using this
end Sim
namespace Sim
open PySem L2 Bl
def mf (p : List (Int × Int)) (v : Int) : Int := (look p v).getD v
structure PD (V : List Int) (E : Int → Int → Prop) (p : List (Int × Int)) : Prop where
  nd : (p.map (·.1)).Nodup
  ne : ∀ v w, look p v = some w → w ≠ v ∧ v ∈ V
  mt : Mt V E (mf p)
theorem mf_some {p : List (Int × Int)} {v w : Int} (h : look p v = some w) : mf p v = w := by unfold mf; rw [h]; rfl
theorem mf_none {p : List (Int × Int)} {v : Int} (h : look p v = none) : mf p v = v := by unfold mf; rw [h]; rfl
theorem PD.look {V : List Int} {E : Int → Int → Prop} {p : List (Int × Int)} (h : PD V E p) (v : Int) : Sim.look p v = if mf p v = v then none else some (mf p v) := by
  cases q : Sim.look p v with
  | none => rw [if_pos (mf_none q)]
  | some w => rw [mf_some q, if_neg (h.ne v w q).1]
theorem PD.len {V : List Int} {E : Int → Int → Prop} {p : List (Int × Int)} (h : PD V E p) : p.length ≤ V.length := by
  have := h.nd.length_le_of_subset (l₂ := V) fun x hx => by
    have := look_some_mem.mpr hx
    cases q : Sim.look p x with
    | none => rw [q] at this; cases this
    | some w => exact (h.ne x w q).2
  simpa using this
theorem Mt.congr {V : List Int} {E : Int → Int → Prop} {f g : Int → Int} (m : Mt V E f) (h : ∀ v ∈ V, g v = f v) : Mt V E g :=
  ⟨fun v hv => by rw [h v hv, h _ (m.inn v hv), m.inv v hv], fun v hv => by rw [h v hv]; exact m.inn v hv, fun v hv => by rw [h v hv]; exact m.ed v hv⟩
theorem df_congr {V : List Int} {f g : Int → Int} (h : ∀ v ∈ V, g v = f v) : df V g = df V f := List.countP_congr fun v hv => by simp [un, h v hv]
theorem Cert.congr {V : List Int} {E : Int → Int → Prop} {f g : Int → Int} (h : ∀ v ∈ V, g v = f v) {A : Int → Bool} {c : Int → Int} {Ls : List Int} (C : Cert V E f A c Ls) : Cert V E g A c Ls :=
  ⟨C.nd, C.cl, C.odd, by rw [df_congr h]; exact C.tgt, fun v h1 h2 h3 => by rw [df_congr h]; exact C.mis v h1 h2 h3, C.tch⟩
theorem Aug.congr {V : List Int} {E : Int → Int → Prop} {f g : Int → Int} (h : ∀ v ∈ V, g v = f v) {P : List Int} (a : Aug V E f P) : Aug V E g P :=
  ⟨a.nd, a.sub, a.ev, a.ne, a.alt.mono (fun _ _ _ _ e => e) fun x hx y _ e => by rw [h x (a.sub x hx)]; exact e, fun x q => by rw [h x (a.sub x (List.mem_of_head? q))]; exact a.hd x q, fun x q => by rw [h x (a.sub x (List.mem_of_getLast? q))]; exact a.lst x q⟩
end Sim
namespace Sim
open PySem L2 Bl
end Sim
namespace Sim
open PySem L2 Bl
end Sim
namespace Sim
open PySem L2 Bl
theorem mem_rangeL {lo hi x : Int} : x ∈ rangeL lo hi ↔ lo ≤ x ∧ x < hi := by
  unfold rangeL
  rw [List.mem_map]
  constructor
  · rintro ⟨i, h1, h2⟩
    have := List.mem_range.mp h1
    omega
  · rintro ⟨h1, h2⟩
    exact ⟨(x - lo).toNat, List.mem_range.mpr (by omega), by omega⟩
theorem rangeL_nodup (lo hi : Int) : (rangeL lo hi).Nodup := by
  unfold rangeL
  have : ∀ L : List Nat, L.Nodup → (L.map fun (i : Nat) => lo + (i : Int)).Nodup := by
    intro L
    induction L with
    | nil => intro _; exact List.nodup_nil
    | cons a r ih =>
      intro h
      rw [List.map_cons, List.nodup_cons]
      refine ⟨fun hm => ?_, ih (List.nodup_cons.mp h).2⟩
      obtain ⟨b, hb, e⟩ := List.mem_map.mp hm
      have : b = a := by omega
      exact (List.nodup_cons.mp h).1 (this ▸ hb)
  exact this _ List.nodup_range
end Sim
namespace Sim
open PySem L2 Bl
theorem range_at {lo hi x : Int} {dn rs : List Int} (h : rangeL lo hi = dn ++ x :: rs) : x = lo + (dn.length : Int) ∧ dn.length < (hi - lo).toNat := by
  have hl := congrArg List.length h
  rw [rangeL_length] at hl
  simp at hl
  have e : (rangeL lo hi)[dn.length]? = some x := by rw [h]; simp
  unfold rangeL at e
  rw [List.getElem?_map, List.getElem?_range (by omega)] at e
  exact ⟨(Option.some.inj e).symm, by omega⟩
end Sim
namespace Sim
open PySem L2 Bl
theorem Mt.mem {V V' : List Int} {E E' : Int → Int → Prop} {f : Int → Int} (m : Mt V E f) (h : ∀ x, x ∈ V' ↔ x ∈ V) (hE : ∀ u v, u ∈ V' → v ∈ V' → E u v → E' u v) : Mt V' E' f :=
  ⟨fun v hv => m.inv v ((h v).mp hv), fun v hv => (h _).mpr (m.inn v ((h v).mp hv)), fun v hv q => hE _ _ hv ((h _).mpr (m.inn v ((h v).mp hv))) (m.ed v ((h v).mp hv) q)⟩
end Sim
namespace Sim
open PySem L2 Bl
abbrev WebD.nms (w : WebD) : List Tt := w.pairs ++ w.givers
def doesB (w : WebD) (a b : Tt) : Bool := (look w.suits (a, b)).isSome
def meetB (w : WebD) (a b : Tt) : Bool := if isIn a w.givers = true then doesB w a b else if isIn b w.givers = true then doesB w b a else doesB w a b && doesB w b a
def meetI (w : WebD) (a b : Int) : Bool := match atI w.nms a, atI w.nms b with
  | some x, some y => meetB w x y
  | _, _ => false
theorem web_names_ok {w : WebD} (h : w.nms.length ≤ 1000) : m_Web_names (w, ()) = some w.nms := by
  unfold m_Web_names mb_Web_names
  have big : BIG = 1000000 := rfl
  have h' : (w.pairs ++ w.givers).length ≤ 1000 := h
  rw [List.length_append] at h'
  show Option.bind (Option.bind (pcat w.pairs w.givers) _) _ = _
  rw [pcat_ok (by omega)]
  rfl
theorem web_does_ok {w : WebD} {a b : Tt} : m_Web_does_suit (w, a, b, ()) = some (doesB w a b) := rfl
theorem web_meet_ok {w : WebD} {a b : Tt} : m_Web_may_meet (w, a, b, ()) = some (meetB w a b) := by
  unfold m_Web_may_meet mb_Web_may_meet meetB
  by_cases h1 : isIn a w.givers = true
  · rw [if_pos h1]
    show Option.bind (flb (if isIn a w.givers = true then _ else _) _) _ = _
    rw [if_pos h1]; rfl
  · rw [if_neg h1]
    show Option.bind (flb (if isIn a w.givers = true then _ else _) _) _ = _
    rw [if_neg h1]
    by_cases h2 : isIn b w.givers = true
    · rw [if_pos h2]
      show Option.bind (flb (if isIn b w.givers = true then _ else _) _) _ = _
      rw [if_pos h2]; rfl
    · rw [if_neg h2]
      show Option.bind (flb (if isIn b w.givers = true then _ else _) _) _ = _
      rw [if_neg h2]
      show Option.bind (Option.bind (andM (some (doesB w a b)) (some (doesB w b a))) _) _ = _
      cases doesB w a b <;> rfl
theorem atI_range {α : Type} {xs : List α} {x : Int} (h : 0 ≤ x ∧ x < (xs.length : Int)) : ∃ a, atI xs x = some a := by
  have e := atI_nat (xs := xs) (i := x.toNat) (List.getElem?_eq_getElem (by omega))
  rw [Int.toNat_of_nonneg h.1] at e
  exact ⟨_, e⟩
end Sim
namespace Sim
open PySem L2 Bl
end Sim
namespace Sim
open PySem L2 Bl
end Sim
namespace Sim
open PySem L2 Bl
end Sim
namespace Sim
open PySem L2 Bl
end Sim
namespace Sim
open PySem L2 Bl
section
variable {w w' : WebD} {i : Tt}
end
end Sim
namespace Sim
open PySem L2 Bl
theorem isIn_f {α : Type} [DecidableEq α] {x : α} {xs : List α} (h : x ∉ xs) : isIn x xs = false := by
  cases z : isIn x xs with
  | false => rfl
  | true => exact absurd (isIn_iff.mp z) h
theorem add_suit_ok {p g : List Tt} {s : SU} {a b : Tt} (h1 : a ∈ p ∨ a ∈ g) (h2 : b ∈ p) (h3 : b ∉ g) (h4 : a ≠ b) (h5 : (a, b) ∉ s.map (·.1)) (hl : s.length + 1 ≤ BIG) :
    m_Web__add_suit (a, b, ()) p g s = some (.ok (put s (a, b) true)) := by
  have c1 : andM (some (!isIn a p)) (some (!isIn a g)) = some false := by
    rcases h1 with h | h
    · rw [isIn_iff.mpr h]; rfl
    · rw [isIn_iff.mpr h]; cases isIn a p <;> rfl
  have c2 : andM (some (!isIn b p)) (some (!isIn b g)) = some false := by rw [isIn_iff.mpr h2]; rfl
  have c3 : orM (some (isIn b g)) (orM (some (decide (a = b))) (some ((look s (a, b)).isSome))) = some false := by
    rw [isIn_f h3, decide_eq_false h4, look_none_mem.mpr h5]; rfl
  unfold m_Web__add_suit mb_Web__add_suit
  show Option.bind (flb (Option.bind (andM (some (!isIn a p)) (some (!isIn a g))) _) _) _ = _
  rw [c1]
  show Option.bind (flb (Option.bind (andM (some (!isIn b p)) (some (!isIn b g))) _) _) _ = _
  rw [c2]
  show Option.bind (flb (Option.bind (orM (some (isIn b g)) (orM (some (decide (a = b))) (some ((look s (a, b)).isSome)))) _) _) _ = _
  rw [c3]
  show Option.bind (Option.bind (dput s (a, b) true) _) _ = _
  rw [dput_ok hl]
  rfl
end Sim
namespace Sim
open PySem L2 Bl
theorem web_okK {ps gs : List Tt} {ss : List (Tt × Tt)} (hn : ps.length + gs.length ≤ 16) (nd : (ps ++ gs).Nodup) (nm : ∀ x ∈ ps ++ gs, m_is_name (x, ()) = some true)
    (hs : ∀ r ∈ ss, (r.1 ∈ ps ∨ r.1 ∈ gs) ∧ r.2 ∈ ps ∧ r.1 ≠ r.2) (ns : ss.Nodup) (hl : ss.length ≤ 1000) :
    Gets (m_Web___init__ (ps, gs, ss, ())) fun r => ∃ w, r = .ok w ∧ w.pairs = ps ∧ w.givers = srt gs ∧ w.suits.map (·.1) = ss := by
  have big : BIG = 1000000 := rfl
  have nd' := List.nodup_append.mp nd
  unfold m_Web___init__ mb_Web___init__
  have c1 : decide (k_MOST_NAMES < ((ps.length : Int) + (gs.length : Int))) = false := decide_eq_false (by show ¬ (16 : Int) < _; omega)
  refine gets_bind (gets_flb ?_)
  refine gets_step (x := decide (k_MOST_NAMES < ((ps.length : Int) + (gs.length : Int)))) rfl ?_
  rw [c1]
  refine gets_some ?_
  refine gets_step (x := ()) rfl (gets_flb ?_)
  refine gets_step (pcat_ok (by show ps.length + gs.length ≤ BIG; omega)) ?_
  refine gets_forF (fun dn s => s.map (·.1) = dn) rfl ?_ ?_
  · rintro dn x rs s e i
    refine gets_flb ?_
    have hx : x ∈ ps ++ gs := by rw [e]; simp
    show Gets (Option.bind (Option.bind (m_is_name (x, ())) _) _) _
    rw [nm x hx]
    refine gets_some ?_
    refine gets_flb ?_
    have hnd : x ∉ s.map (·.1) := by
      rw [i]
      have := e ▸ nd
      exact fun z => (List.nodup_append.mp this).2.2 x z x (by simp) rfl
    show Gets (if (look s x).isSome = true then _ else _) _
    rw [look_none_mem.mpr hnd]
    refine gets_some ?_
    have ll : s.length ≤ 16 := by
      have a := congrArg List.length e
      have b := congrArg List.length i
      simp only [List.length_append, List.length_cons, List.length_map] at a b
      omega
    refine gets_step (dput_ok (by omega)) (gets_some ?_)
    show (put s x true).map (·.1) = dn ++ [x]
    rw [put_keys', if_neg hnd, i]
  · rintro s i
    refine gets_step rfl (gets_step rfl (gets_step rfl (gets_flb (gets_step (x := ss) rfl ?_))))
    refine gets_forF (fun dn s => s.map (·.1) = dn) rfl ?_ ?_
    · rintro dn ⟨a, b⟩ rs s2 e j
      have hr := hs (a, b) (by rw [e]; simp)
      have h5 : (a, b) ∉ s2.map (·.1) := by
        rw [j]
        have := e ▸ ns
        exact fun z => (List.nodup_append.mp this).2.2 _ z _ (by simp) rfl
      have ll : s2.length ≤ 1000 := by
        have a := congrArg List.length e
        have b := congrArg List.length j
        simp only [List.length_append, List.length_cons, List.length_map] at a b
        omega
      have hg : b ∉ srt gs := fun z => nd'.2.2 b hr.2.1 b ((srt_perm gs).mem_iff.mp z) rfl
      refine gets_flb ?_
      have ad := add_suit_ok (p := ps) (g := srt gs) (s := s2) (a := a) (b := b) (hr.1.imp_right fun z => (srt_perm gs).mem_iff.mpr z) hr.2.1 hg hr.2.2 h5 (by omega)
      show Gets (Option.bind (Option.bind (m_Web__add_suit (a, b, ()) ps (srt gs) s2) _) _) _
      rw [ad]
      refine gets_some (gets_some ?_)
      show (put s2 (a, b) true).map (·.1) = dn ++ [(a, b)]
      rw [put_keys', if_neg h5, j]
    · rintro s2 j
      exact gets_some (gets_some ⟨⟨ps, srt gs, s2⟩, rfl, rfl, rfl, j⟩)
theorem does_keys {w : WebD} {ss : List (Tt × Tt)} (h : w.suits.map (·.1) = ss) (a b : Tt) : doesB w a b = true ↔ (a, b) ∈ ss := by
  unfold doesB
  rw [look_some_mem, h]
theorem web_ok' {ps gs : List Tt} {ss : List (Tt × Tt)} (hn : ps.length + gs.length ≤ 16) (nd : (ps ++ gs).Nodup) (nm : ∀ x ∈ ps ++ gs, m_is_name (x, ()) = some true)
    (hs : ∀ r ∈ ss, (r.1 ∈ ps ∨ r.1 ∈ gs) ∧ r.2 ∈ ps ∧ r.1 ≠ r.2) (ns : ss.Nodup) (hl : ss.length ≤ 1000) :
    Gets (m_Web___init__ (ps, gs, ss, ())) fun r => ∃ w, r = .ok w ∧ w.pairs = ps ∧ w.givers = srt gs ∧ ∀ a b, doesB w a b = true ↔ (a, b) ∈ ss :=
  gets_mono (web_okK hn nd nm hs ns hl) fun r ⟨w, h1, h2, h3, h4⟩ => ⟨w, h1, h2, h3, does_keys h4⟩
end Sim
namespace Sim
open PySem L2 Bl
theorem cell_ok (ns : List Int) {k : Int} (h0 : 0 ≤ k) (h1 : k < 100000) : ∃ c, m__law_cell (⟨ns⟩, k, ()) = some c := by
  unfold m__law_cell mb__law_cell
  by_cases h : k < (ns.length : Int)
  · obtain ⟨x, hx⟩ : ∃ x, ns[k.toNat]? = some x := ⟨ns[k.toNat]'(by omega), List.getElem?_eq_getElem _⟩
    have e : atI ns k = some x := by
      have := atI_nat hx
      rwa [Int.toNat_of_nonneg h0] at this
    refine ⟨x, ?_⟩
    simp only [h, decide_true, Option.bind_some, if_true, e, flb]
    rfl
  · refine ⟨13 * k + 6, ?_⟩
    simp only [h, decide_false, Option.bind_some, Bool.false_eq_true, if_false, flb]
    rw [pmul_ok (.inl (by decide))]
    rfl
theorem web_ok {ps gs : List Tt} {ss : List (Tt × Tt)} (hn : ps.length + gs.length ≤ 16) (nd : (ps ++ gs).Nodup) (nm : ∀ x ∈ ps ++ gs, m_is_name (x, ()) = some true)
    (hs : ∀ r ∈ ss, (r.1 ∈ ps ∨ r.1 ∈ gs) ∧ r.2 ∈ ps ∧ r.1 ≠ r.2) (ns : ss.Nodup) (hl : ss.length ≤ 1000) :
    ∃ w : WebD, m_Web___init__ (ps, gs, ss, ()) = some (.ok w) ∧ w.pairs = ps ∧ w.givers = srt gs ∧ w.nms.Nodup ∧ w.nms.length ≤ 16 ∧ ∀ a b, doesB w a b = true ↔ (a, b) ∈ ss := by
  obtain ⟨r, e, w, hr, h1, h2, h3⟩ := web_ok' hn nd nm hs ns hl
  subst hr
  have en : w.nms = ps ++ srt gs := by unfold WebD.nms; rw [h1, h2]
  have p : (ps ++ srt gs).Perm (ps ++ gs) := List.Perm.append_left _ (srt_perm gs)
  refine ⟨w, e, h1, h2, by rw [en]; exact p.nodup_iff.mpr nd, ?_, h3⟩
  rw [en, p.length_eq, List.length_append]
  exact hn
end Sim
namespace Sim
open PySem L2 Bl
def tl (z : Tt) : List Nat := z.s.cps.toList
theorem tl_len (z : Tt) : z.s.length = (tl z).length := by simp [tl, Str.length]
theorem slen_ok {z : Tt} (h : (tl z).length ≤ 1000000) : slen z = some ((tl z).length : Int) := by
  have big : BIG = 1000000 := rfl
  unfold slen
  rw [tl_len, if_pos (by omega)]
theorem sadd_ok {x y : Tt} (h : (tl x).length + (tl y).length ≤ 1000000) : ∃ z, sadd x y = some z ∧ tl z = tl x ++ tl y := by
  have big : BIG = 1000000 := rfl
  unfold sadd
  rw [if_pos (by rw [tl_len, tl_len]; omega)]
  refine ⟨_, rfl, ?_⟩
  show (x.s.cps ++ y.s.cps).toList = _
  simp [tl]
theorem scut_eq {x : Tt} {lo hi : Option Int} (h : (tl x).length ≤ 1000000) : ∃ z, scut x lo hi = some z ∧ tl z = cut (tl x) lo hi := by
  have big : BIG = 1000000 := rfl
  unfold scut
  rw [if_pos (by rw [tl_len]; omega)]
  refine ⟨_, rfl, ?_⟩
  have e : x.s.length = (tl x).length := tl_len x
  show (cutS x.s lo hi).cps.toList = _
  unfold cut cutS
  rw [e]
  show (List.toArray _).toList = _
  simp [tl]
theorem cut_to {α : Type} {xs : List α} {i : Nat} : cut xs none (some (i : Int)) = xs.take i := by
  unfold cut
  rw [show HT.sIx xs.length 0 none = 0 from rfl, HT.sIx_nat]
  simp only [List.drop_zero, Nat.sub_zero]
  rw [List.take_eq_take_iff]
  omega
theorem cut_from {α : Type} {xs : List α} {i : Nat} : cut xs (some (i : Int)) none = xs.drop i := by
  unfold cut
  rw [show HT.sIx xs.length xs.length none = xs.length from rfl, HT.sIx_nat]
  rw [List.take_of_length_le (by rw [List.length_drop]; omega)]
  by_cases h : i ≤ xs.length
  · rw [Nat.min_eq_left h]
  · rw [Nat.min_eq_right (by omega), List.drop_of_length_le (Nat.le_refl _), List.drop_of_length_le (by omega)]
theorem scut_to {x : Tt} {i : Nat} (h : (tl x).length ≤ 1000000) : ∃ z, scut x none (some (i : Int)) = some z ∧ tl z = (tl x).take i := by
  obtain ⟨z, e, q⟩ := scut_eq (lo := none) (hi := some (i : Int)) h
  exact ⟨z, e, by rw [q, cut_to]⟩
theorem scut_from {x : Tt} {i : Nat} (h : (tl x).length ≤ 1000000) : ∃ z, scut x (some (i : Int)) none = some z ∧ tl z = (tl x).drop i := by
  obtain ⟨z, e, q⟩ := scut_eq (lo := some (i : Int)) (hi := none) h
  exact ⟨z, e, by rw [q, cut_from]⟩
theorem foldl_flat (x : Array Nat) : ∀ (n : Nat) (z : Array Nat), ((List.replicate n x).foldl (· ++ ·) z).toList = z.toList ++ (List.replicate n x.toList).flatten
  | 0, z => by simp
  | n + 1, z => by
    rw [List.replicate_succ, List.foldl_cons, foldl_flat x n, List.replicate_succ]
    simp
theorem srep_ok {x : Tt} {n : Nat} (h : n ≤ 1000) (hl : (tl x).length ≤ 1000) : ∃ z, srep x (n : Int) = some z ∧ tl z = (List.replicate n (tl x)).flatten := by
  unfold srep
  rw [if_pos ⟨by omega, by omega, by rw [tl_len]; omega⟩]
  refine ⟨_, rfl, ?_⟩
  show (Txt.mul x.s (n : Int)).cps.toList = _
  unfold Txt.mul
  by_cases c : (n : Int) < 1
  · have : n = 0 := by omega
    subst this
    rw [if_pos c]; rfl
  · rw [if_neg c]
    by_cases d : ((n : Int) == 1 || x.s.length == 0) = true
    · rw [if_pos d]
      rw [Bool.or_eq_true] at d
      rcases d with d | d
      · have : n = 1 := by
          have : (n : Int) = 1 := by simpa using d
          omega
        subst this
        simp [tl]
      · have d : x.s.length = 0 := by simpa using d
        rw [tl_len] at d
        have : tl x = [] := List.length_eq_zero_iff.mp d
        rw [this]
        have : x.s.cps.toList = [] := this
        rw [this]
        simp
    · rw [if_neg d]
      show ((List.replicate ((n : Int)).toNat x.s.cps).foldl (· ++ ·) #[]).toList = _
      rw [Int.toNat_natCast, foldl_flat]
      simp [tl]
theorem tl_chS (c : Ch) : tl (chS c) = [c.c] := rfl
theorem signs_eq (z : Tt) : (signs z).map (·.c) = tl z := by
  unfold signs tl
  rw [List.map_pmap]
  simp
theorem atS_nat {z : Tt} {i : Nat} {c : Nat} (hl : (tl z).length ≤ 1000000) (h : (tl z)[i]? = some c) : ∃ x : Ch, atS z (i : Int) = some x ∧ x.c = c := by
  have big : BIG = 1000000 := rfl
  unfold atS
  rw [tl_len, if_pos (by omega)]
  have h2 : ((signs z).map (·.c))[i]? = some c := by rw [signs_eq]; exact h
  rw [List.getElem?_map] at h2
  cases e : (signs z)[i]? with
  | none => rw [e] at h2; cases h2
  | some x =>
    rw [e] at h2
    exact ⟨x, atI_nat e, by simpa using h2⟩
def abc : Tt := Tt.mk "abcdefghijklmnopqrstuvwxyz" (by decide +kernel)
theorem tl_abc : tl abc = (List.range 26).map (97 + ·) := by decide +kernel
theorem abc_get {i : Nat} (h : i < 26) : (tl abc)[i]? = some (97 + i) := by
  rw [tl_abc, List.getElem?_map, List.getElem?_range h]
  rfl
theorem mem_abc {c : Nat} : c ∈ tl abc ↔ 97 ≤ c ∧ c < 123 := by
  rw [tl_abc, List.mem_map]
  constructor
  · rintro ⟨i, h, e⟩
    rw [List.mem_range] at h
    omega
  · rintro ⟨h1, h2⟩
    exact ⟨c - 97, List.mem_range.mpr (by omega), by omega⟩
theorem atS_abc {i : Int} (h0 : 0 ≤ i) (h : i < 26) : ∃ x : Ch, atS abc i = some x ∧ x.c = 97 + i.toNat := by
  have := atS_nat (z := abc) (i := i.toNat) (by rw [tl_abc]; simp) (abc_get (by omega))
  rwa [Int.toNat_of_nonneg h0] at this
def NameT (z : Tt) : Prop := (1 ≤ (tl z).length ∧ (tl z).length ≤ 12) ∧ ∀ c ∈ tl z, 97 ≤ c ∧ c < 123
end Sim
namespace Sim
open PySem L2 Bl
instance (z : Tt) : Decidable (NameT z) := by unfold NameT; infer_instance
theorem inS_abc {c : Ch} : inS c k_LETTERS = true ↔ 97 ≤ c.c ∧ c.c < 123 := by
  unfold inS
  rw [decide_eq_true_iff]
  exact mem_abc
theorem is_name_ok {z : Tt} (hl : (tl z).length ≤ 1000000) : m_is_name (z, ()) = some (decide (NameT z)) := by
  have key : Gets (mb_is_name (z, ())) fun r => r = .ret (decide (NameT z)) () := by
    unfold mb_is_name
    refine gets_flb (gets_step (x := signs z) rfl ?_)
    refine gets_forF (fun dn _ => ∀ x ∈ dn, 97 ≤ x.c ∧ x.c < 123) (by simp) ?_ ?_
    · rintro dn x rs _ e h
      refine gets_flb ?_
      show Gets (if (!inS x k_LETTERS) = true then _ else _) _
      by_cases hx : inS x k_LETTERS = true
      · rw [hx]
        refine gets_some (gets_some fun y hy => ?_)
        rcases List.mem_append.mp hy with q | q
        · exact h y q
        · rw [List.mem_singleton.mp q]; exact inS_abc.mp hx
      · have hx' : inS x k_LETTERS = false := by simpa using hx
        rw [hx']
        refine gets_some ?_
        show Fl.ret false () = Fl.ret (decide (NameT z)) ()
        rw [decide_eq_false]
        rintro ⟨_, q⟩
        refine hx (inS_abc.mpr (q x.c ?_))
        rw [← signs_eq, e]
        simp
    · rintro _ h
      have h' : ∀ c ∈ tl z, 97 ≤ c ∧ c < 123 := fun c hc => by
        rw [← signs_eq] at hc
        obtain ⟨x, hx, q⟩ := List.mem_map.mp hc
        rw [← q]; exact h x hx
      show Gets (Option.bind (Option.bind (slen z) _) _) _
      rw [slen_ok hl]
      by_cases c1 : 1 ≤ (tl z).length
      · show Gets (Option.bind (if decide ((1 : Int) ≤ ((tl z).length : Int)) = true then _ else _) _) _
        rw [if_pos (by simp; omega)]
        refine gets_some ?_
        show Fl.ret (decide (((tl z).length : Int) ≤ 12)) () = _
        congr 1
        exact decide_eq_decide.mpr ⟨fun q => ⟨⟨c1, by omega⟩, h'⟩, fun q => by have := q.1.2; omega⟩
      · show Gets (Option.bind (if decide ((1 : Int) ≤ ((tl z).length : Int)) = true then _ else _) _) _
        rw [if_neg (by simp; omega)]
        refine gets_some ?_
        show Fl.ret false () = _
        rw [decide_eq_false]
        exact fun q => c1 q.1.1
  obtain ⟨r, e, q⟩ := key
  unfold m_is_name
  rw [e, q]
  rfl
end Sim
namespace Sim
open PySem L2 Bl
theorem nd_map {α β : Type} {g : α → β} : ∀ {xs : List α}, xs.Nodup → (∀ x ∈ xs, ∀ y ∈ xs, g x = g y → x = y) → (xs.map g).Nodup
  | [], _, _ => List.nodup_nil
  | a :: r, h, inj => by
    have h := List.nodup_cons.mp h
    rw [List.map_cons, List.nodup_cons]
    refine ⟨fun q => ?_, nd_map h.2 fun x hx y hy e => inj x (by simp [hx]) y (by simp [hy]) e⟩
    obtain ⟨y, hy, e⟩ := List.mem_map.mp q
    have := inj y (by simp [hy]) a (by simp) e
    exact h.1 (this ▸ hy)
theorem lcM_all {α γ : Type} {f : α → Option γ} (d : γ) : ∀ {xs : List α}, (∀ x ∈ xs, ∃ y, f x = some y) → lcM (fun _ => some true) f xs = some (xs.map fun x => (f x).getD d)
  | [], _ => rfl
  | x :: r, h => by
    obtain ⟨y, e⟩ := h x (by simp)
    have ih := lcM_all (f := f) d (xs := r) fun z hz => h z (by simp [hz])
    unfold lcM
    show Option.bind (f x) _ = _
    rw [List.map_cons, e]
    show Option.bind (lcM _ f r) _ = _
    rw [ih]
    rfl
theorem lcB_all {α γ : Type} {f : α → Option γ} (d : γ) {xs : List α} (hl : xs.length ≤ 1000000) (h : ∀ x ∈ xs, ∃ y, f x = some y) : lcB (fun _ => some true) f xs = some (xs.map fun x => (f x).getD d) := by
  have big : BIG = 1000000 := rfl
  unfold lcB
  rw [if_pos (by omega), lcM_all d h]
theorem get_erase_perm {α : Type} : ∀ {l : List α} {j : Nat} (h : j < l.length), (l[j] :: l.eraseIdx j).Perm l
  | [], _, h => absurd h (Nat.not_lt_zero _)
  | a :: r, 0, h => .refl _
  | a :: r, j + 1, h => by
    have hj : j < r.length := by simpa using h
    have ih := get_erase_perm (l := r) (j := j) hj
    show (r[j] :: a :: r.eraseIdx j).Perm (a :: r)
    exact (List.Perm.swap _ _ _).trans (List.Perm.cons a ih)
def LetT (z : Tt) : Prop := ∀ c ∈ tl z, 97 ≤ c ∧ c < 123
theorem mod26 (z : Int) : 0 ≤ z % 26 ∧ z % 26 < 26 := ⟨Int.emod_nonneg _ (by omega), Int.emod_lt_of_pos _ (by omega)⟩
theorem wordA {base : Tt} {at' k st : Nat} (hb : (tl base).length ≤ 11) (hl : LetT base) :
    ∃ z, ((((scut base none (some (at' : Int))).bind fun w23 => (((pmod ((st : Int) + (k : Int)) (26 : Int)).bind fun w21 => atS abc w21).bind fun w22 => some (chS w22)).bind fun w24 => sadd w23 w24).bind fun w25 => (scut base (some (at' : Int)) none).bind fun w26 => sadd w25 w26)) = some z ∧
      tl z = (tl base).take at' ++ [97 + (st + k) % 26] ++ (tl base).drop at' := by
  obtain ⟨z1, e1, q1⟩ := scut_to (x := base) (i := at') (by omega)
  obtain ⟨z2, e2, q2⟩ := scut_from (x := base) (i := at') (by omega)
  have m := mod26 ((st : Int) + (k : Int))
  obtain ⟨c, e3, q3⟩ := atS_abc m.1 m.2
  have h1 : (tl z1).length ≤ 11 := by rw [q1, List.length_take]; omega
  have h2 : (tl z2).length ≤ 11 := by rw [q2, List.length_drop]; omega
  obtain ⟨z3, e4, q4⟩ := sadd_ok (x := z1) (y := chS c) (by rw [tl_chS]; simp; omega)
  have h3 : (tl z3).length ≤ 12 := by rw [q4, List.length_append, tl_chS]; simp; omega
  obtain ⟨z4, e5, q5⟩ := sadd_ok (x := z3) (y := z2) (by omega)
  refine ⟨z4, ?_, ?_⟩
  · rw [e1, pmod_ok (by omega)]
    show Option.bind (Option.bind (Option.bind (atS abc _) _) _) _ = _
    rw [e3]
    show Option.bind (sadd z1 (chS c)) _ = _
    rw [e4]
    show Option.bind (scut base _ none) _ = _
    rw [e2]
    exact e5
  · rw [q5, q4, q1, q2, tl_chS, q3]
    congr 3
theorem wordB {k st : Nat} (hk : k < 16) (hs : st < 26) :
    ∃ z, ((((((atS abc (st : Int)).bind fun w35 => some (chS w35)).bind fun w36 => ((pdiv (k : Int) (2 : Int)).bind fun w34 => some ((1 : Int) + w34)).bind fun w37 => srep w36 w37).bind fun w42 => ((((pmod (((st : Int) + (1 : Int)) + (k : Int)) (26 : Int)).bind fun w38 => atS abc w38).bind fun w39 => some (chS w39)).bind fun w40 => (pmod (k : Int) (2 : Int)).bind fun w41 => srep w40 w41).bind fun w43 => sadd w42 w43).bind fun w44 => scut w44 none (some (12 : Int)))) = some z ∧
      tl z = List.replicate (1 + k / 2) (97 + st) ++ List.replicate (k % 2) (97 + (st + 1 + k) % 26) := by
  obtain ⟨c, e1, q1⟩ := atS_abc (i := (st : Int)) (by omega) (by omega)
  have m := mod26 (((st : Int) + 1) + (k : Int))
  obtain ⟨d, e2, q2⟩ := atS_abc m.1 m.2
  obtain ⟨z1, e3, q3⟩ := srep_ok (x := chS c) (n := 1 + k / 2) (by omega) (by rw [tl_chS]; simp)
  obtain ⟨z2, e4, q4⟩ := srep_ok (x := chS d) (n := k % 2) (by omega) (by rw [tl_chS]; simp)
  have fl : ∀ (n a : Nat), (List.replicate n [a]).flatten = List.replicate n a := fun n a => by simp
  rw [tl_chS, fl] at q3 q4
  obtain ⟨z3, e5, q5⟩ := sadd_ok (x := z1) (y := z2) (by rw [q3, q4]; simp; omega)
  obtain ⟨z4, e6, q6⟩ := scut_to (x := z3) (i := 12) (by rw [q5, q3, q4]; simp; omega)
  have n1 : (1 : Int) + (k : Int) / 2 = ((1 + k / 2 : Nat) : Int) := by omega
  have n2 : (k : Int) % 2 = ((k % 2 : Nat) : Int) := by omega
  refine ⟨z4, ?_, ?_⟩
  · rw [e1, pdiv_ok (by omega) (by omega), pmod_ok (by omega), pmod_ok (by omega)]
    show Option.bind (Option.bind (srep (chS c) ((1 : Int) + (k : Int) / 2)) _) _ = _
    rw [n1, e3]
    show Option.bind (Option.bind (Option.bind (Option.bind (atS abc _) _) _) _) _ = _
    rw [e2]
    show Option.bind (Option.bind (srep (chS d) ((k : Int) % 2)) _) _ = _
    rw [n2, e4]
    show Option.bind (sadd z1 z2) _ = _
    rw [e5]
    exact e6
  · rw [q6, q5, q3, q4, q1, q2]
    rw [List.take_of_length_le (by simp; omega)]
    congr 2
end Sim
namespace Sim
open PySem L2 Bl
theorem drop_mid {a c : List Nat} {b : Nat} : (a ++ [b] ++ c).drop (a.length + 1) = c := by
  rw [show a.length + 1 = (a ++ [b]).length by simp, List.drop_left]
def FormQ (ws : List Tt) : Prop := (∃ i : Nat, ∀ x ∈ ws, ∀ y ∈ ws, (tl x).length = (tl y).length ∧ (tl x).take i = (tl y).take i ∧ (tl x).drop (i + 1) = (tl y).drop (i + 1)) ∨
  ∃ a : Nat, ∀ x ∈ ws, ∃ n b j : Nat, j ≤ 1 ∧ 1 ≤ n ∧ tl x = List.replicate n a ++ List.replicate j b
theorem FormQ.sub {ws vs : List Tt} (h : FormQ ws) (s : ∀ x ∈ vs, x ∈ ws) : FormQ vs := by
  rcases h with ⟨i, h⟩ | ⟨a, h⟩
  · exact .inl ⟨i, fun x hx y hy => h x (s x hx) y (s y hy)⟩
  · exact .inr ⟨a, fun x hx => h x (s x hx)⟩
def NmsQ (n : Int) (ws : List Tt) : Prop := (ws.length : Int) = n ∧ ws.Nodup ∧ (∀ z ∈ ws, NameT z) ∧ FormQ ws
theorem range_nat {a : Int} {x : Int} (h : x ∈ rangeL 0 a) : ∃ k : Nat, x = (k : Int) ∧ (k : Int) < a := by
  rw [mem_rangeL] at h
  exact ⟨x.toNat, by omega, by omega⟩
theorem law_words_ok {c n : Int} (h0 : 0 ≤ n) (h1 : n ≤ 16) : Gets (m__law_words (c, n, ())) (NmsQ n) := by
  have big : BIG = 1000000 := rfl
  unfold m__law_words mb__law_words
  dsimp only
  have m12 : 0 ≤ c % 12 ∧ c % 12 < 12 := ⟨Int.emod_nonneg _ (by omega), Int.emod_lt_of_pos _ (by omega)⟩
  (repeat first | with_reducible refine gets_bind ?_ | with_reducible refine gets_some ?_ | with_reducible refine gets_eq (pmod_ok (by omega)) ?_ | with_reducible refine gets_eq (pdiv_ok (by omega) (by omega)) ?_ | with_reducible refine gets_eq (prange_ok (by omega) (by omega)) ?_ | with_reducible refine gets_eq (pmul_ok (.inl (by decide))) ?_ | with_reducible refine gets_eq (pmul_ok (.inr (by decide))) ?_ | with_reducible refine gets_eq (pmul_ok (.inl (by omega))) ?_)
  refine gets_forP (fun dn s => (tl s).length = dn.length ∧ LetT s) ⟨by decide +kernel, fun x hx => by
    have : tl (Tt.mk "" (by decide +kernel)) = [] := by decide +kernel
    rw [this] at hx; cases hx⟩ ?_ ?_
  · rintro dn x rs s e ⟨i1, i2⟩
    obtain ⟨hx, hx2⟩ := range_at e
    have m := mod26 (c / (12 + x) + 5 * x)
    obtain ⟨d, ed, qd⟩ := atS_abc m.1 m.2
    have ll : dn.length ≤ 12 := by omega
    obtain ⟨z, ez, qz⟩ := sadd_ok (x := s) (y := chS d) (by rw [tl_chS]; simp; omega)
    (repeat first | with_reducible refine gets_bind ?_ | with_reducible refine gets_some ?_ | with_reducible refine gets_eq (pmod_ok (by omega)) ?_ | with_reducible refine gets_eq (pdiv_ok (by omega) (by omega)) ?_ | with_reducible refine gets_eq (prange_ok (by omega) (by omega)) ?_ | with_reducible refine gets_eq (pmul_ok (.inl (by decide))) ?_ | with_reducible refine gets_eq (pmul_ok (.inr (by decide))) ?_ | with_reducible refine gets_eq (pmul_ok (.inl (by omega))) ?_)
    refine gets_eq (show atS abc _ = _ from ed) ?_
    (repeat first | with_reducible refine gets_bind ?_ | with_reducible refine gets_some ?_ | with_reducible refine gets_eq (pmod_ok (by omega)) ?_ | with_reducible refine gets_eq (pdiv_ok (by omega) (by omega)) ?_ | with_reducible refine gets_eq (prange_ok (by omega) (by omega)) ?_ | with_reducible refine gets_eq (pmul_ok (.inl (by decide))) ?_ | with_reducible refine gets_eq (pmul_ok (.inr (by decide))) ?_ | with_reducible refine gets_eq (pmul_ok (.inl (by omega))) ?_)
    refine gets_eq ez ?_
    (repeat first | with_reducible refine gets_bind ?_ | with_reducible refine gets_some ?_ | with_reducible refine gets_eq (pmod_ok (by omega)) ?_ | with_reducible refine gets_eq (pdiv_ok (by omega) (by omega)) ?_ | with_reducible refine gets_eq (prange_ok (by omega) (by omega)) ?_ | with_reducible refine gets_eq (pmul_ok (.inl (by decide))) ?_ | with_reducible refine gets_eq (pmul_ok (.inr (by decide))) ?_ | with_reducible refine gets_eq (pmul_ok (.inl (by omega))) ?_)
    refine ⟨?_, fun y hy => ?_⟩
    · rw [qz, List.length_append, tl_chS, List.length_append, i1]; rfl
    · rw [qz, tl_chS] at hy
      rcases List.mem_append.mp hy with q | q
      · exact i2 y q
      · rw [List.mem_singleton.mp q, qd]
        omega
  · rintro base ⟨b1, b2⟩
    rw [rangeL_length] at b1
    have hb : (tl base).length ≤ 11 := by omega
    have ma : 0 ≤ (c / 7) % (((tl base).length : Int) + 1) ∧ (c / 7) % (((tl base).length : Int) + 1) < ((tl base).length : Int) + 1 := ⟨Int.emod_nonneg _ (by omega), Int.emod_lt_of_pos _ (by omega)⟩
    (repeat first | with_reducible refine gets_bind ?_ | with_reducible refine gets_some ?_ | with_reducible refine gets_eq (pmod_ok (by omega)) ?_ | with_reducible refine gets_eq (pdiv_ok (by omega) (by omega)) ?_ | with_reducible refine gets_eq (prange_ok (by omega) (by omega)) ?_ | with_reducible refine gets_eq (pmul_ok (.inl (by decide))) ?_ | with_reducible refine gets_eq (pmul_ok (.inr (by decide))) ?_ | with_reducible refine gets_eq (pmul_ok (.inl (by omega))) ?_)
    refine gets_eq (slen_ok (by omega)) ?_
    (repeat with_reducible refine gets_bind ?_)
    refine gets_some (gets_eq (pmod_ok (by omega)) ?_)
    obtain ⟨at', ha, ha2⟩ : ∃ k : Nat, (c / 7) % (((tl base).length : Int) + 1) = (k : Int) ∧ k ≤ (tl base).length := ⟨((c / 7) % (((tl base).length : Int) + 1)).toNat, by omega, by omega⟩
    rw [ha]
    (repeat with_reducible refine gets_bind ?_)
    refine gets_eq (pdiv_ok (by omega) (by omega)) (gets_eq (pmod_ok (by omega)) ?_)
    have ms := mod26 (c / 100)
    obtain ⟨st, hst, hst2⟩ : ∃ k : Nat, (c / 100) % 26 = (k : Int) ∧ k < 26 := ⟨((c / 100) % 26).toNat, by omega, by omega⟩
    rw [hst]
    (repeat first | with_reducible refine gets_bind ?_ | with_reducible refine gets_some ?_ | with_reducible refine gets_eq (pmod_ok (by omega)) ?_ | with_reducible refine gets_eq (pdiv_ok (by omega) (by omega)) ?_ | with_reducible refine gets_eq (prange_ok (by omega) (by omega)) ?_ | with_reducible refine gets_eq (pmul_ok (.inl (by decide))) ?_ | with_reducible refine gets_eq (pmul_ok (.inr (by decide))) ?_ | with_reducible refine gets_eq (pmul_ok (.inl (by omega))) ?_)
    have lr : (rangeL 0 n).length ≤ 1000000 := by rw [rangeL_length]; omega
    have hA : ∀ x ∈ rangeL 0 n, ∃ y, (fun (x20 : Int) => (((scut base none (some (at' : Int))).bind fun w23 => (((pmod ((st : Int) + x20) (26 : Int)).bind fun w21 => atS abc w21).bind fun w22 => some (chS w22)).bind fun w24 => sadd w23 w24).bind fun w25 => (scut base (some (at' : Int)) none).bind fun w26 => sadd w25 w26)) x = some y := fun x hx => by
      obtain ⟨k, e, hk⟩ := range_nat hx
      subst e
      obtain ⟨z, ez, _⟩ := wordA (base := base) (at' := at') (k := k) (st := st) hb b2
      exact ⟨z, ez⟩
    refine gets_eq (lcB_all abc lr hA) ?_
    have qA : NmsQ n ((rangeL 0 n).map (fun x => (((scut base none (some (at' : Int))).bind fun w23 => (((pmod ((st : Int) + x) (26 : Int)).bind fun w21 => atS abc w21).bind fun w22 => some (chS w22)).bind fun w24 => sadd w23 w24).bind fun w25 => (scut base (some (at' : Int)) none).bind fun w26 => sadd w25 w26).getD abc)) := by
      refine ⟨by rw [List.length_map, rangeL_length]; omega, nd_map (rangeL_nodup 0 n) fun x hx y hy e => ?_, fun z hz => ?_, .inl ⟨at', fun x hx y hy => ?_⟩⟩
      · obtain ⟨k, ek, hk⟩ := range_nat hx
        obtain ⟨j, ej, hj⟩ := range_nat hy
        subst ek ej
        obtain ⟨z1, e1, q1⟩ := wordA (base := base) (at' := at') (k := k) (st := st) hb b2
        obtain ⟨z2, e2, q2⟩ := wordA (base := base) (at' := at') (k := j) (st := st) hb b2
        rw [e1, e2] at e
        have e : z1 = z2 := e
        rw [e, q2] at q1
        have := List.append_cancel_left (List.append_cancel_right q1)
        have : (97 + (st + j) % 26) = 97 + (st + k) % 26 := by simpa using this
        omega
      · obtain ⟨x, hx, e⟩ := List.mem_map.mp hz
        obtain ⟨k, ek, hk⟩ := range_nat hx
        subst ek
        obtain ⟨z1, e1, q1⟩ := wordA (base := base) (at' := at') (k := k) (st := st) hb b2
        rw [e1] at e
        have e : z1 = z := e
        subst e
        refine ⟨?_, fun y hy => ?_⟩
        · rw [q1]
          simp only [List.length_append, List.length_take, List.length_drop, List.length_cons, List.length_nil]
          omega
        · rw [q1] at hy
          rcases List.mem_append.mp hy with q | q
          · rcases List.mem_append.mp q with q | q
            · exact b2 y (List.mem_of_mem_take q)
            · rw [List.mem_singleton.mp q]; omega
          · exact b2 y (List.mem_of_mem_drop q)
      · have W : ∀ z ∈ (rangeL 0 n).map (fun x => (((scut base none (some (at' : Int))).bind fun w23 => (((pmod ((st : Int) + x) (26 : Int)).bind fun w21 => atS abc w21).bind fun w22 => some (chS w22)).bind fun w24 => sadd w23 w24).bind fun w25 => (scut base (some (at' : Int)) none).bind fun w26 => sadd w25 w26).getD abc), ∃ b, tl z = (tl base).take at' ++ [b] ++ (tl base).drop at' := fun z hz => by
          obtain ⟨x, hx, e⟩ := List.mem_map.mp hz
          obtain ⟨k, ek, hk⟩ := range_nat hx
          subst ek
          obtain ⟨z1, e1, q1⟩ := wordA (base := base) (at' := at') (k := k) (st := st) hb b2
          rw [e1] at e
          have e : z1 = z := e
          subst e
          exact ⟨_, q1⟩
        obtain ⟨b1, e1⟩ := W x hx
        obtain ⟨b2, e2⟩ := W y hy
        have lt : ((tl base).take at').length = at' := by rw [List.length_take]; omega
        rw [e1, e2]
        refine ⟨by simp, ?_, ?_⟩
        · rw [List.append_assoc, List.append_assoc, List.take_append_of_le_length (by omega), List.take_append_of_le_length (by omega)]
        · have d1 := drop_mid (a := (tl base).take at') (b := b1) (c := (tl base).drop at')
          have d2 := drop_mid (a := (tl base).take at') (b := b2) (c := (tl base).drop at')
          rw [lt] at d1 d2
          rw [d1, d2]
    refine gets_bind (gets_mono (Q := NmsQ n) ?_ ?_)
    · (repeat first | with_reducible refine gets_bind ?_ | with_reducible refine gets_some ?_ | with_reducible refine gets_eq (pmod_ok (by omega)) ?_ | with_reducible refine gets_eq (pdiv_ok (by omega) (by omega)) ?_ | with_reducible refine gets_eq (prange_ok (by omega) (by omega)) ?_ | with_reducible refine gets_eq (pmul_ok (.inl (by decide))) ?_ | with_reducible refine gets_eq (pmul_ok (.inr (by decide))) ?_ | with_reducible refine gets_eq (pmul_ok (.inl (by omega))) ?_)
      refine gets_if (fun _ => ?_) (fun _ => gets_some qA)
      (repeat first | with_reducible refine gets_bind ?_ | with_reducible refine gets_some ?_ | with_reducible refine gets_eq (pmod_ok (by omega)) ?_ | with_reducible refine gets_eq (pdiv_ok (by omega) (by omega)) ?_ | with_reducible refine gets_eq (prange_ok (by omega) (by omega)) ?_ | with_reducible refine gets_eq (pmul_ok (.inl (by decide))) ?_ | with_reducible refine gets_eq (pmul_ok (.inr (by decide))) ?_ | with_reducible refine gets_eq (pmul_ok (.inl (by omega))) ?_)
      refine gets_forP (fun dn s => s.length = dn.length ∧ s.Nodup ∧ (∀ z ∈ s, NameT z) ∧ ∀ z ∈ s, ∃ k : Nat, (k : Int) ∈ dn ∧ tl z = List.replicate (1 + k / 2) (97 + st) ++ List.replicate (k % 2) (97 + (st + 1 + k) % 26)) ⟨rfl, List.nodup_nil, by simp, by simp⟩ ?_ ?_
      · rintro dn x rs s e ⟨i1, i2, i3, i4⟩
        have nr := rangeL_nodup 0 n
        rw [e] at nr
        have xd : x ∉ dn := fun q => (List.nodup_append.mp nr).2.2 x q x (by simp) rfl
        have hx : x ∈ rangeL 0 n := by rw [e]; simp
        obtain ⟨k, ek, hk⟩ := range_nat hx
        have dk : ∀ j : Nat, (j : Int) ∈ dn → (j : Int) < n := fun j hj => by
          have : (j : Int) ∈ rangeL 0 n := by rw [e]; simp [hj]
          rw [mem_rangeL] at this
          omega
        subst ek
        obtain ⟨z, ez, qz⟩ := wordB (k := k) (st := st) (by omega) hst2
        refine gets_bind (gets_bind (gets_eq ez ?_))
        have ll : s.length ≤ 16 := by
          have := congrArg List.length e
          rw [rangeL_length] at this
          simp at this
          omega
        refine gets_eq (push_ok (by omega)) (gets_some ⟨by simp [i1], ?_, fun y hy => ?_, fun y hy => ?_⟩)
        · rw [List.nodup_append]
          refine ⟨i2, by simp, fun a ha b hb ee => ?_⟩
          rw [List.mem_singleton.mp hb] at ee
          subst ee
          obtain ⟨j, hj, qj⟩ := i4 a ha
          have hj2 := dk j hj
          rw [qj] at qz
          have l1 := congrArg List.length qz
          simp only [List.length_append, List.length_replicate] at l1
          have hne : j ≠ k := fun q => xd (q ▸ hj)
          -- the same length, another count of the first sign
          have hc := congrArg (List.count (97 + st)) qz
          simp only [List.count_append, List.count_replicate, beq_self_eq_true, if_true] at hc
          have nk : ((97 + (st + 1 + k) % 26) == (97 + st)) = false := by
            rw [beq_eq_false_iff_ne]; omega
          have nj : ((97 + (st + 1 + j) % 26) == (97 + st)) = false := by
            rw [beq_eq_false_iff_ne]; omega
          rw [nk, nj] at hc
          simp at hc
          omega
        · rcases List.mem_append.mp hy with q | q
          · exact i3 y q
          · rw [List.mem_singleton.mp q]
            refine ⟨?_, fun a ha => ?_⟩
            · rw [qz]; simp only [List.length_append, List.length_replicate]; omega
            · rw [qz] at ha
              rcases List.mem_append.mp ha with w | w
              · rw [(List.mem_replicate.mp w).2]; omega
              · rw [(List.mem_replicate.mp w).2]; omega
        · rcases List.mem_append.mp hy with q | q
          · obtain ⟨j, hj, qj⟩ := i4 y q
            exact ⟨j, List.mem_append.mpr (.inl hj), qj⟩
          · exact ⟨k, by simp, by rw [List.mem_singleton.mp q]; exact qz⟩
      · rintro s ⟨i1, i2, i3, i4⟩
        rw [rangeL_length] at i1
        refine gets_some ⟨by omega, i2, i3, .inr ⟨97 + st, fun x hx => ?_⟩⟩
        obtain ⟨k, _, q⟩ := i4 x hx
        exact ⟨_, _, _, by omega, by omega, q⟩
    · rintro ws ⟨w1, w2, w3, w4⟩
      (repeat first | with_reducible refine gets_bind ?_ | with_reducible refine gets_some ?_ | with_reducible refine gets_eq (pmod_ok (by omega)) ?_ | with_reducible refine gets_eq (pdiv_ok (by omega) (by omega)) ?_ | with_reducible refine gets_eq (prange_ok (by omega) (by omega)) ?_ | with_reducible refine gets_eq (pmul_ok (.inl (by decide))) ?_ | with_reducible refine gets_eq (pmul_ok (.inr (by decide))) ?_ | with_reducible refine gets_eq (pmul_ok (.inl (by omega))) ?_)
      refine gets_forP (fun dn s => (s.2 ++ s.1).Perm ws ∧ s.2.length = dn.length) ⟨.refl _, rfl⟩ ?_ ?_
      · rintro dn x rs ⟨left, trn⟩ e ⟨i1, i2⟩
        simp only at i1 i2
        obtain ⟨hk, hk2⟩ := range_at e
        have ln := i1.length_eq
        simp at ln
        have hlp : 0 < left.length := by omega
        have d2 : pmod (c / (3 + 2 * x)) (left.length : Int) = some ((c / (3 + 2 * x)) % (left.length : Int)) := pmod_ok (by omega)
        have j0 : 0 ≤ (c / (3 + 2 * x)) % (left.length : Int) := Int.emod_nonneg _ (by omega)
        have j1 : (c / (3 + 2 * x)) % (left.length : Int) < (left.length : Int) := Int.emod_lt_of_pos _ (by omega)
        obtain ⟨j, hj⟩ : ∃ j : Nat, (c / (3 + 2 * x)) % (left.length : Int) = (j : Int) := ⟨_, (Int.toNat_of_nonneg j0).symm⟩
        have hjl : j < left.length := by omega
        have p1 : ppopAt left (j : Int) = some (left[j], left.eraseIdx j) := ppopAt_ok (by omega) (List.getElem?_eq_getElem hjl)
        dsimp only
        (repeat first | with_reducible refine gets_bind ?_ | with_reducible refine gets_some ?_ | with_reducible refine gets_eq (pmod_ok (by omega)) ?_ | with_reducible refine gets_eq (pdiv_ok (by omega) (by omega)) ?_ | with_reducible refine gets_eq (prange_ok (by omega) (by omega)) ?_ | with_reducible refine gets_eq (pmul_ok (.inl (by decide))) ?_ | with_reducible refine gets_eq (pmul_ok (.inr (by decide))) ?_ | with_reducible refine gets_eq (pmul_ok (.inl (by omega))) ?_)
        rw [hj]
        refine gets_eq p1 ?_
        (repeat with_reducible refine gets_bind ?_)
        refine gets_eq (push_ok (by omega)) ?_
        (repeat first | with_reducible refine gets_bind ?_ | with_reducible refine gets_some ?_ | with_reducible refine gets_eq (pmod_ok (by omega)) ?_ | with_reducible refine gets_eq (pdiv_ok (by omega) (by omega)) ?_ | with_reducible refine gets_eq (prange_ok (by omega) (by omega)) ?_ | with_reducible refine gets_eq (pmul_ok (.inl (by decide))) ?_ | with_reducible refine gets_eq (pmul_ok (.inr (by decide))) ?_ | with_reducible refine gets_eq (pmul_ok (.inl (by omega))) ?_)
        refine ⟨?_, by simp [i2]⟩
        refine List.Perm.trans ?_ i1
        show (trn ++ [left[j]] ++ left.eraseIdx j).Perm (trn ++ left)
        rw [List.append_assoc]
        exact List.Perm.append_left trn (get_erase_perm hjl)
      · rintro ⟨left, trn⟩ ⟨i1, i2⟩
        simp only at i1 i2
        rw [rangeL_length] at i2
        have ln := i1.length_eq
        simp at ln
        have : left = [] := List.length_eq_zero_iff.mp (by omega)
        subst this
        rw [List.append_nil] at i1
        refine gets_some (gets_some ?_)
        refine ⟨?_, i1.nodup_iff.mpr w2, fun z hz => w3 z (i1.mem_iff.mp hz), w4.sub fun z hz => i1.mem_iff.mp hz⟩
        show (trn.length : Int) = n
        rw [i1.length_eq]; exact w1
end Sim
namespace Sim
open PySem L2 Bl
structure WebQ (most : Int) (r : R3 (List Tt) (List Tt) (List (Tt × Tt))) : Prop where
  len : ((r.a.length : Int) + (r.b.length : Int)) ≤ most
  nd : (r.a ++ r.b).Nodup
  nm : ∀ z ∈ r.a ++ r.b, NameT z
  su : ∀ q ∈ r.c, (q.1 ∈ r.a ∨ q.1 ∈ r.b) ∧ q.2 ∈ r.a ∧ q.1 ≠ q.2
  sn : r.c.Nodup
  sl : r.c.length ≤ 1000
  fm : FormQ (r.a ++ r.b)
theorem nodup_get {α : Type} {xs : List α} (nd : xs.Nodup) {i j : Nat} {x : α} (hi : xs[i]? = some x) (hj : xs[j]? = some x) : i = j := by
  obtain ⟨h1, e1⟩ := List.getElem?_eq_some_iff.mp hi
  obtain ⟨h2, e2⟩ := List.getElem?_eq_some_iff.mp hj
  exact (List.getElem_inj nd).mp (e1.trans e2.symm)
theorem atI_inj {α : Type} {xs : List α} (nd : xs.Nodup) {i j : Int} (hi : 0 ≤ i ∧ i < (xs.length : Int)) (hj : 0 ≤ j ∧ j < (xs.length : Int)) {x : α} (e1 : atI xs i = some x) (e2 : atI xs j = some x) : i = j := by
  have a1 := atI_nat (xs := xs) (i := i.toNat) (List.getElem?_eq_getElem (by omega))
  have a2 := atI_nat (xs := xs) (i := j.toNat) (List.getElem?_eq_getElem (by omega))
  rw [Int.toNat_of_nonneg hi.1, e1] at a1
  rw [Int.toNat_of_nonneg hj.1, e2] at a2
  have := nodup_get nd (i := i.toNat) (j := j.toNat) (x := x) (by rw [List.getElem?_eq_getElem (by omega)]; exact a1.symm) (by rw [List.getElem?_eq_getElem (by omega)]; exact a2.symm)
  omega
def RowQ (ws : List Tt) (n : Int) (D : Int → Int → Prop) (r : Tt × Tt) : Prop := ∃ i j : Int, 0 ≤ i ∧ i < j ∧ j < n ∧ D i j ∧ ((atI ws i = some r.1 ∧ atI ws j = some r.2) ∨ (atI ws i = some r.2 ∧ atI ws j = some r.1))
theorem RowQ.mono {ws : List Tt} {n : Int} {D D' : Int → Int → Prop} {r : Tt × Tt} (h : RowQ ws n D r) (k : ∀ i j, D i j → D' i j) : RowQ ws n D' r := by
  obtain ⟨i, j, h1, h2, h3, h4, h5⟩ := h
  exact ⟨i, j, h1, h2, h3, k i j h4, h5⟩
theorem law_web_ok (ns : List Int) {most : Int} (h0 : 0 ≤ most) (h1 : most ≤ 16) : Gets (m__law_web (⟨ns⟩, most, ())) (WebQ most) := by
  have big : BIG = 1000000 := rfl
  have C : ∀ k : Int, 0 ≤ k → k < 1000 → ∃ c, m__law_cell (⟨ns⟩, k, ()) = some c := fun k a b => cell_ok ns (k := k) a (by omega)
  obtain ⟨c0, e0⟩ := C 0 (by omega) (by omega)
  obtain ⟨c1, e1⟩ := C 1 (by omega) (by omega)
  unfold m__law_web mb__law_web
  refine gets_bind ?_
  dsimp only
  have mn : 0 ≤ c0 % (most + 1) ∧ c0 % (most + 1) < most + 1 := ⟨Int.emod_nonneg _ (by omega), Int.emod_lt_of_pos _ (by omega)⟩
  ((repeat first | with_reducible refine gets_bind ?_ | with_reducible refine gets_some ?_ | with_reducible refine gets_eq (pmod_ok (by omega)) ?_ | with_reducible refine gets_eq (pdiv_ok (by omega) (by omega)) ?_ | with_reducible refine gets_eq (prange_ok (by omega) (by omega)) ?_ | with_reducible refine gets_eq (pmul_ok (.inl (by decide))) ?_ | with_reducible refine gets_eq (pmul_ok (.inr (by decide))) ?_ | with_reducible refine gets_eq (pmul_ok (.inl (by omega))) ?_); refine gets_eq (e0) ?_)
  refine gets_eq (pmod_ok (by omega)) ?_
  generalize c0 % (most + 1) = n at mn ⊢
  have m4 : 0 ≤ c0 / 20 % 4 := Int.emod_nonneg _ (by omega)
  ((repeat first | with_reducible refine gets_bind ?_ | with_reducible refine gets_some ?_ | with_reducible refine gets_eq (pmod_ok (by omega)) ?_ | with_reducible refine gets_eq (pdiv_ok (by omega) (by omega)) ?_ | with_reducible refine gets_eq (prange_ok (by omega) (by omega)) ?_ | with_reducible refine gets_eq (pmul_ok (.inl (by decide))) ?_ | with_reducible refine gets_eq (pmul_ok (.inr (by decide))) ?_ | with_reducible refine gets_eq (pmul_ok (.inl (by omega))) ?_); refine gets_eq (e0) ?_)
  refine gets_eq (pdiv_ok (by omega) (by omega)) (gets_eq (pmod_ok (by omega)) (gets_some ?_))
  refine gets_bind (gets_mono (Q := fun s => 0 ≤ s ∧ s ≤ n) ?_ ?_)
  · ((repeat first | with_reducible refine gets_bind ?_ | with_reducible refine gets_some ?_ | with_reducible refine gets_eq (pmod_ok (by omega)) ?_ | with_reducible refine gets_eq (pdiv_ok (by omega) (by omega)) ?_ | with_reducible refine gets_eq (prange_ok (by omega) (by omega)) ?_ | with_reducible refine gets_eq (pmul_ok (.inl (by decide))) ?_ | with_reducible refine gets_eq (pmul_ok (.inr (by decide))) ?_ | with_reducible refine gets_eq (pmul_ok (.inl (by omega))) ?_); refine gets_eq (e0) ?_)
    (repeat first | with_reducible refine gets_bind ?_ | with_reducible refine gets_some ?_ | with_reducible refine gets_eq (pmod_ok (by omega)) ?_ | with_reducible refine gets_eq (pdiv_ok (by omega) (by omega)) ?_ | with_reducible refine gets_eq (prange_ok (by omega) (by omega)) ?_ | with_reducible refine gets_eq (pmul_ok (.inl (by decide))) ?_ | with_reducible refine gets_eq (pmul_ok (.inr (by decide))) ?_ | with_reducible refine gets_eq (pmul_ok (.inl (by omega))) ?_)
    refine gets_if (fun _ => ?_) (fun _ => ?_)
    · ((repeat first | with_reducible refine gets_bind ?_ | with_reducible refine gets_some ?_ | with_reducible refine gets_eq (pmod_ok (by omega)) ?_ | with_reducible refine gets_eq (pdiv_ok (by omega) (by omega)) ?_ | with_reducible refine gets_eq (prange_ok (by omega) (by omega)) ?_ | with_reducible refine gets_eq (pmul_ok (.inl (by decide))) ?_ | with_reducible refine gets_eq (pmul_ok (.inr (by decide))) ?_ | with_reducible refine gets_eq (pmul_ok (.inl (by omega))) ?_); refine gets_eq (e0) ?_)
      (repeat first | with_reducible refine gets_bind ?_ | with_reducible refine gets_some ?_ | with_reducible refine gets_eq (pmod_ok (by omega)) ?_ | with_reducible refine gets_eq (pdiv_ok (by omega) (by omega)) ?_ | with_reducible refine gets_eq (prange_ok (by omega) (by omega)) ?_ | with_reducible refine gets_eq (pmul_ok (.inl (by decide))) ?_ | with_reducible refine gets_eq (pmul_ok (.inr (by decide))) ?_ | with_reducible refine gets_eq (pmul_ok (.inl (by omega))) ?_)
      have a := Int.emod_nonneg (c0 / 20) (b := n + 1) (by omega)
      have b := Int.emod_lt_of_pos (c0 / 20) (b := n + 1) (by omega)
      omega
    · refine gets_some ?_
      unfold minI
      split <;> omega
  · rintro al ⟨al0, al1⟩
    ((repeat first | with_reducible refine gets_bind ?_ | with_reducible refine gets_some ?_ | with_reducible refine gets_eq (pmod_ok (by omega)) ?_ | with_reducible refine gets_eq (pdiv_ok (by omega) (by omega)) ?_ | with_reducible refine gets_eq (prange_ok (by omega) (by omega)) ?_ | with_reducible refine gets_eq (pmul_ok (.inl (by decide))) ?_ | with_reducible refine gets_eq (pmul_ok (.inr (by decide))) ?_ | with_reducible refine gets_eq (pmul_ok (.inl (by omega))) ?_); refine gets_eq (e1) ?_)
    (repeat first | with_reducible refine gets_bind ?_ | with_reducible refine gets_some ?_ | with_reducible refine gets_eq (pmod_ok (by omega)) ?_ | with_reducible refine gets_eq (pdiv_ok (by omega) (by omega)) ?_ | with_reducible refine gets_eq (prange_ok (by omega) (by omega)) ?_ | with_reducible refine gets_eq (pmul_ok (.inl (by decide))) ?_ | with_reducible refine gets_eq (pmul_ok (.inr (by decide))) ?_ | with_reducible refine gets_eq (pmul_ok (.inl (by omega))) ?_)
    refine gets_mono (law_words_ok mn.1 (by omega)) ?_
    rintro ws ⟨w1, w2, w3, w4⟩
    obtain ⟨k, hk, hk2⟩ : ∃ k : Nat, n - al = (k : Int) ∧ k ≤ ws.length := ⟨(n - al).toNat, by omega, by omega⟩
    rw [hk, cut_to, cut_from]
    (repeat first | with_reducible refine gets_bind ?_ | with_reducible refine gets_some ?_ | with_reducible refine gets_eq (pmod_ok (by omega)) ?_ | with_reducible refine gets_eq (pdiv_ok (by omega) (by omega)) ?_ | with_reducible refine gets_eq (prange_ok (by omega) (by omega)) ?_ | with_reducible refine gets_eq (pmul_ok (.inl (by decide))) ?_ | with_reducible refine gets_eq (pmul_ok (.inr (by decide))) ?_ | with_reducible refine gets_eq (pmul_ok (.inl (by omega))) ?_)
    have m5 : 0 ≤ c0 / 80 % 4 := Int.emod_nonneg _ (by omega)
    have m6 : c0 / 80 % 4 < 4 := Int.emod_lt_of_pos _ (by omega)
    refine gets_eq e0 ?_
    refine gets_eq (pdiv_ok (by omega) (by omega)) (gets_eq (pmod_ok (by omega)) (gets_some ?_))
    have hdn : 2 ≤ 2 + c0 / 80 % 4 ∧ 2 + c0 / 80 % 4 < 6 := by omega
    generalize 2 + c0 / 80 % 4 = dn at hdn ⊢
    refine gets_step rfl ?_
    have rngW : ∀ i : Int, 0 ≤ i → i < n → ∃ x, atI ws i = some x := fun i a b => atI_range (xs := ws) (by omega)
    -- the rows
    refine gets_bind (gets_mono (Q := fun s => s.Nodup ∧ s.length ≤ 640 ∧ ∀ r ∈ s, RowQ ws n (fun _ _ => True) r) ?_ ?_)
    · refine gets_bind (gets_eq (prange_ok (by omega) (by omega)) ?_)
      refine gets_forP (fun done s => s.Nodup ∧ s.length ≤ 40 * done.length ∧ ∀ r ∈ s, RowQ ws n (fun i _ => i ∈ done) r) ⟨List.nodup_nil, by simp, by simp⟩ ?_ ?_
      · rintro done x rs s hs ⟨i1, i2, i3⟩
        obtain ⟨hx, hx2⟩ := range_at hs
        have nr := rangeL_nodup 0 n
        rw [hs] at nr
        have xd : x ∉ done := fun q => (List.nodup_append.mp nr).2.2 x q x (by simp) rfl
        have hxn : 0 ≤ x ∧ x < n := by omega
        obtain ⟨A, hA⟩ := rngW x hxn.1 hxn.2
        have hdl : done.length ≤ 16 := by omega
        refine gets_bind (gets_mono (Q := fun s => s.Nodup ∧ s.length ≤ 40 * done.length + 40 ∧ ∀ r ∈ s, RowQ ws n (fun i j => i ∈ done ∨ (i = x ∧ True)) r) ?_ ?_)
        · refine gets_bind (gets_eq (prange_ok (by omega) (by omega)) ?_)
          refine gets_forP (fun done2 s => s.Nodup ∧ s.length ≤ 40 * done.length + 2 * done2.length ∧ ∀ r ∈ s, RowQ ws n (fun i j => i ∈ done ∨ (i = x ∧ j ∈ done2)) r) ⟨i1, by simpa using i2, fun r hr => (i3 r hr).mono fun i j q => .inl q⟩ ?_ ?_
          · rintro done2 y rs2 s2 hs2 ⟨j1, j2, j3⟩
            obtain ⟨hy, hy2⟩ := range_at hs2
            have nr2 := rangeL_nodup (x + 1) n
            rw [hs2] at nr2
            have yd : y ∉ done2 := fun q => (List.nodup_append.mp nr2).2.2 y q y (by simp) rfl
            have hyn : 0 ≤ y ∧ y < n := by omega
            have hxy : x < y := by omega
            have hdl2 : done2.length ≤ 16 := by omega
            obtain ⟨B, hB⟩ := rngW y hyn.1 hyn.2
            have hAB : A ≠ B := fun e => by
              have := atI_inj w2 (i := x) (j := y) (by omega) (by omega) hA (e ▸ hB)
              omega
            -- a row of these two is new
            have new : ∀ r, (r = (A, B) ∨ r = (B, A)) → r ∉ s2 := fun r hr hm => by
              obtain ⟨i, j, k1, k2, k3, k4, k5⟩ := j3 r hm
              have hij : i = x ∧ j = y := by
                have U : ∀ a b : Int, 0 ≤ a ∧ a < n → 0 ≤ b ∧ b < n → ∀ z, atI ws a = some z → atI ws b = some z → a = b := fun a b ha hb z e1 e2 => atI_inj w2 (by omega) (by omega) e1 e2
                rcases hr with e | e <;> subst e <;> rcases k5 with ⟨p, q⟩ | ⟨p, q⟩
                · exact ⟨U _ _ (by omega) (by omega) _ p hA, U _ _ (by omega) (by omega) _ q hB⟩
                · have a1 := U _ _ (by omega) (by omega) _ p hB
                  have a2 := U _ _ (by omega) (by omega) _ q hA
                  omega
                · have a1 := U _ _ (by omega) (by omega) _ p hB
                  have a2 := U _ _ (by omega) (by omega) _ q hA
                  omega
                · exact ⟨U _ _ (by omega) (by omega) _ p hA, U _ _ (by omega) (by omega) _ q hB⟩
              rcases k4 with z | z
              · exact xd (hij.1 ▸ z)
              · exact yd (hij.2 ▸ z.2)
            have old : ∀ r ∈ s2, RowQ ws n (fun i j => i ∈ done ∨ (i = x ∧ j ∈ done2 ++ [y])) r := fun r hr => (j3 r hr).mono fun i j q => q.imp_right fun z => ⟨z.1, by simp [z.2]⟩
            have rAB : ∀ r, (r = (A, B) ∨ r = (B, A)) → RowQ ws n (fun i j => i ∈ done ∨ (i = x ∧ j ∈ done2 ++ [y])) r := fun r hr => ⟨x, y, hxn.1, hxy, hyn.2, .inr ⟨rfl, by simp⟩, by
              rcases hr with e | e <;> subst e
              · exact .inl ⟨hA, hB⟩
              · exact .inr ⟨hA, hB⟩⟩
            have hll : (done2 ++ [y]).length = done2.length + 1 := by simp
            obtain ⟨cc, ecc⟩ := C (2 + (x * 16 + y) % 44) (by have := Int.emod_nonneg (x * 16 + y) (b := 44) (by omega); omega) (by have := Int.emod_lt_of_pos (x * 16 + y) (b := 44) (by omega); omega)
            have m7 := Int.emod_nonneg (x + y) (b := 5) (by omega)
            have m8 := Int.emod_lt_of_pos (x + y) (b := 5) (by omega)
            ((repeat first | with_reducible refine gets_bind ?_ | with_reducible refine gets_some ?_ | with_reducible refine gets_eq (pmod_ok (by omega)) ?_ | with_reducible refine gets_eq (pdiv_ok (by omega) (by omega)) ?_ | with_reducible refine gets_eq (prange_ok (by omega) (by omega)) ?_ | with_reducible refine gets_eq (pmul_ok (.inl (by decide))) ?_ | with_reducible refine gets_eq (pmul_ok (.inr (by decide))) ?_ | with_reducible refine gets_eq (pmul_ok (.inl (by omega))) ?_); refine gets_eq (ecc) ?_)
            refine gets_bind (gets_bind (gets_eq (pmod_ok (by omega)) (gets_some (gets_eq (pdiv_ok (by omega) (by omega)) ?_))))
            generalize cc / (1 + (x + y) % 5) = z26
            rw [hA, hB]
            refine gets_bind (gets_bind (gets_bind (gets_eq (pmod_ok (by omega)) (gets_some ?_))))
            refine gets_if (fun _ => ?_) (fun _ => ?_)
            · show Gets (Option.bind (push s2 (A, B)) _) _
              rw [push_ok (by omega)]
              show Gets (Option.bind (push (s2 ++ [(A, B)]) (B, A)) _) _
              rw [push_ok (by simp; omega)]
              refine gets_some (gets_some ⟨?_, by simp; omega, fun r hr => ?_⟩)
              · rw [List.append_assoc, List.nodup_append]
                refine ⟨j1, by simp [hAB], fun a ha b hb e => ?_⟩
                subst e
                exact new a (by simpa using hb) ha
              · rw [List.append_assoc] at hr
                rcases List.mem_append.mp hr with q | q
                · exact old r q
                · exact rAB r (by simpa using q)
            · refine gets_bind (gets_mono (Q := fun s => s = s2 ∨ ∃ r, (r = (A, B) ∨ r = (B, A)) ∧ s = s2 ++ [r]) ?_ ?_)
              · refine gets_bind (gets_bind (gets_eq (pmod_ok (by omega)) (gets_some ?_)))
                refine gets_if (fun _ => ?_) (fun _ => gets_some (.inl rfl))
                show Gets (Option.bind (Option.bind (Option.bind (Option.bind (pdiv z26 dn) _) (fun w51 => atI [(A, B), (B, A)] w51)) _) _) _
                rw [pdiv_ok (by omega) (by omega)]
                show Gets (Option.bind (Option.bind (Option.bind (pmod (z26 / dn) 2) (fun w51 => atI [(A, B), (B, A)] w51)) _) _) _
                rw [pmod_ok (by omega)]
                have m9 := Int.emod_nonneg (z26 / dn) (b := 2) (by omega)
                have m10 := Int.emod_lt_of_pos (z26 / dn) (b := 2) (by omega)
                have : (z26 / dn) % 2 = 0 ∨ (z26 / dn) % 2 = 1 := by omega
                rcases this with e | e <;> rw [e]
                · show Gets (Option.bind (push s2 (A, B)) _) _
                  rw [push_ok (by omega)]
                  exact gets_some (.inr ⟨_, .inl rfl, rfl⟩)
                · show Gets (Option.bind (push s2 (B, A)) _) _
                  rw [push_ok (by omega)]
                  exact gets_some (.inr ⟨_, .inr rfl, rfl⟩)
              · rintro s3 (e | ⟨r, hr, e⟩)
                · subst e
                  exact gets_some (gets_some ⟨j1, by omega, old⟩)
                · subst e
                  refine gets_some (gets_some ⟨?_, by simp; omega, fun r' hr' => ?_⟩)
                  · rw [List.nodup_append]
                    refine ⟨j1, by simp, fun a ha b hb e => ?_⟩
                    rw [List.mem_singleton.mp hb] at e
                    subst e
                    exact new a hr ha
                  · rcases List.mem_append.mp hr' with q | q
                    · exact old r' q
                    · rw [List.mem_singleton.mp q]; exact rAB r hr
          · rintro s2 ⟨j1, j2, j3⟩
            rw [rangeL_length] at j2
            exact ⟨j1, by omega, fun r hr => (j3 r hr).mono fun i j q => q.imp_right fun z => ⟨z.1, trivial⟩⟩
        · rintro s2 ⟨j1, j2, j3⟩
          exact gets_some ⟨j1, by simp; omega, fun r hr => (j3 r hr).mono fun i j q => by
            rcases q with q | q
            · simp [q]
            · simp [q.1]⟩
      · rintro s ⟨i1, i2, i3⟩
        rw [rangeL_length] at i2
        exact ⟨i1, by omega, fun r hr => (i3 r hr).mono fun i j _ => trivial⟩
    · rintro s ⟨i1, i2, i3⟩
      refine gets_bind (gets_eq (lcB_ok (fun r => isIn r.2 (ws.take k)) (fun r => r) (by omega) (fun _ _ => rfl) (fun _ _ _ => rfl)) ?_)
      rw [List.map_id']
      refine gets_step rfl (gets_some ⟨_, rfl, ?_⟩)
      have tk : ws.take k ++ ws.drop k = ws := List.take_append_drop k ws
      have memW : ∀ {i : Int} {z : Tt}, 0 ≤ i → atI ws i = some z → z ∈ ws := fun {i z} h e => by
        unfold atI at e
        cases hh : ixN ws.length i with
        | none => rw [hh] at e; cases e
        | some j => rw [hh] at e; exact List.mem_of_getElem? e
      refine ⟨?_, ?_, ?_, fun q hq => ?_, i1.filter _, ?_, by show FormQ (ws.take k ++ ws.drop k); rw [tk]; exact w4⟩
      · show (((ws.take k).length : Int) + ((ws.drop k).length : Int)) ≤ most
        rw [List.length_take, List.length_drop]; omega
      · show (ws.take k ++ ws.drop k).Nodup
        rw [tk]; exact w2
      · show ∀ z ∈ ws.take k ++ ws.drop k, NameT z
        rw [tk]; exact w3
      · have hq := List.mem_filter.mp hq
        obtain ⟨i, j, k1, k2, k3, _, k5⟩ := i3 q hq.1
        have h2 : q.2 ∈ ws.take k := isIn_iff.mp hq.2
        have hne : q.1 ≠ q.2 := fun e => by
          rcases k5 with ⟨p, r⟩ | ⟨p, r⟩
          · have := atI_inj w2 (by omega) (by omega) p (e ▸ r); omega
          · have := atI_inj w2 (by omega) (by omega) p (e ▸ r); omega
        have h1' : q.1 ∈ ws := by
          rcases k5 with ⟨p, r⟩ | ⟨p, r⟩
          · exact memW k1 p
          · exact memW (by omega) r
        rw [← tk] at h1'
        exact ⟨List.mem_append.mp h1', h2, hne⟩
      · have := List.length_filter_le (fun r : Tt × Tt => isIn r.2 (ws.take k)) s
        show (s.filter _).length ≤ 1000
        omega
end Sim
namespace Sim
open PySem L2 Bl
structure WOk (w : WebD) : Prop where
  nd : w.nms.Nodup
  len : w.nms.length ≤ 16
  su : ∀ a b, doesB w a b = true → a ∈ w.nms ∧ b ∈ w.pairs ∧ a ≠ b
def MeetN (w : WebD) (a b : Tt) : Prop := meetB w a b = true
section
variable {w : WebD}
theorem pairs_in {a : Tt} (h : a ∈ w.pairs) : a ∈ w.nms := List.mem_append.mpr (.inl h)
theorem meet_cases (h : WOk w) (a b : Tt) : MeetN w a b ↔ (a ∈ w.givers ∧ doesB w a b = true) ∨ (a ∉ w.givers ∧ b ∈ w.givers ∧ doesB w b a = true) ∨ (a ∉ w.givers ∧ b ∉ w.givers ∧ doesB w a b = true ∧ doesB w b a = true) := by
  unfold MeetN meetB
  by_cases h1 : a ∈ w.givers
  · rw [if_pos (isIn_iff.mpr h1)]; simp [h1]
  · rw [if_neg (fun z => h1 (isIn_iff.mp z))]
    by_cases h2 : b ∈ w.givers
    · rw [if_pos (isIn_iff.mpr h2)]; simp [h1, h2]
    · rw [if_neg (fun z => h2 (isIn_iff.mp z))]; simp [h1, h2]
theorem meet_in (h : WOk w) {a b : Tt} (m : MeetN w a b) : a ∈ w.nms ∧ b ∈ w.nms ∧ a ≠ b := by
  rcases (meet_cases h a b).mp m with q | q | q
  · have := h.su a b q.2
    exact ⟨this.1, pairs_in this.2.1, this.2.2⟩
  · have := h.su b a q.2.2
    exact ⟨pairs_in this.2.1, this.1, fun z => this.2.2 z.symm⟩
  · have := h.su a b q.2.2.1
    exact ⟨this.1, pairs_in this.2.1, this.2.2⟩
end
theorem web_wok {ps gs : List Tt} {ss : List (Tt × Tt)} (hn : ps.length + gs.length ≤ 16) (nd : (ps ++ gs).Nodup) (nm : ∀ x ∈ ps ++ gs, NameT x)
    (hs : ∀ r ∈ ss, (r.1 ∈ ps ∨ r.1 ∈ gs) ∧ r.2 ∈ ps ∧ r.1 ≠ r.2) (ns : ss.Nodup) (hl : ss.length ≤ 1000) :
    ∃ w : WebD, m_Web___init__ (ps, gs, ss, ()) = some (.ok w) ∧ w.pairs = ps ∧ w.givers = srt gs ∧ WOk w ∧ ∀ a b, doesB w a b = true ↔ (a, b) ∈ ss := by
  obtain ⟨w, e, h1, h2, h3, h4, h5⟩ := web_ok (ps := ps) (gs := gs) (ss := ss) hn nd (fun x hx => by rw [is_name_ok (by have := (nm x hx).1.2; omega), decide_eq_true (nm x hx)]) hs ns hl
  refine ⟨w, e, h1, h2, ⟨h3, h4, fun a b hd => ?_⟩, h5⟩
  have := hs (a, b) ((h5 a b).mp hd)
  refine ⟨?_, by rw [h1]; exact this.2.1, this.2.2⟩
  unfold WebD.nms
  rw [h1, h2, List.mem_append, (srt_perm gs).mem_iff]
  exact this.1
theorem webq_wok {most : Int} (hm : most ≤ 16) {A G : List Tt} {C : List (Tt × Tt)} (q : WebQ most ⟨A, G, C⟩) :
    ∃ w : WebD, m_Web___init__ (A, G, C, ()) = some (.ok w) ∧ w.pairs = A ∧ w.givers = srt G ∧ WOk w ∧ ∀ a b, doesB w a b = true ↔ (a, b) ∈ C :=
  web_wok (by have := q.len; simp only at this; omega) q.nd q.nm q.su q.sn (by have := q.sl; simp only at this; omega)
end Sim
namespace Sim
open PySem L2 Bl
theorem webq_keys {most : Int} (hm : most ≤ 16) {A G : List Tt} {C : List (Tt × Tt)} (q : WebQ most ⟨A, G, C⟩) {w : WebD} (e : m_Web___init__ (A, G, C, ()) = some (.ok w)) : w.suits.map (·.1) = C := by
  obtain ⟨r, e2, w2, hr, h1, h2, h3⟩ := web_okK (ps := A) (gs := G) (ss := C) (by have := q.len; simp only at this; omega) q.nd (fun x hx => by rw [is_name_ok (by have := (q.nm x hx).1.2; omega), decide_eq_true (q.nm x hx)]) q.su q.sn (by have := q.sl; simp only at this; omega)
  rw [hr] at e2
  rw [e2] at e
  cases e
  exact h3
theorem web_suits_ok {w : WebD} (h : w.suits.length ≤ 1000000) : m_Web_suits (w, ()) = some (srt (w.suits.map (·.1))) := by
  have big : BIG = 1000000 := rfl
  unfold m_Web_suits mb_Web_suits
  show Option.bind (Option.bind (if (w.suits).length ≤ BIG then some (srt ((w.suits).map (·.1))) else none) _) _ = _
  rw [if_pos (by omega)]
  rfl
structure Drawn (A G : List Tt) (C : List (Tt × Tt)) (w : WebD) : Prop where
  ok : WOk w
  wp : w.pairs = A
  wg : w.givers = srt G
  wd : ∀ a b, doesB w a b = true ↔ (a, b) ∈ C
  wk : w.suits.map (·.1) = C
  len : A.length + G.length ≤ 16
  nd : (A ++ G).Nodup
  sn : C.Nodup
  sl : C.length ≤ 1000
theorem webq_drawn {most : Int} (hm : most ≤ 16) {A G : List Tt} {C : List (Tt × Tt)} (q : WebQ most ⟨A, G, C⟩) : ∃ w, m_Web___init__ (A, G, C, ()) = some (.ok w) ∧ Drawn A G C w := by
  obtain ⟨w, e, h1, h2, h3, h4⟩ := webq_wok hm q
  exact ⟨w, e, h3, h1, h2, h4, webq_keys hm q e, by have := q.len; simp only at this; omega, q.nd, q.sn, q.sl⟩
section
variable {A G : List Tt} {C : List (Tt × Tt)} {w : WebD}
theorem Drawn.nms (D : Drawn A G C w) : w.nms = A ++ srt G := by unfold WebD.nms; rw [D.wp, D.wg]
theorem Drawn.perm (D : Drawn A G C w) : w.nms.Perm (A ++ G) := by rw [D.nms]; exact List.Perm.append_left A (srt_perm G)
theorem Drawn.mem (D : Drawn A G C w) (x : Tt) : x ∈ w.nms ↔ x ∈ A ++ G := D.perm.mem_iff
theorem Drawn.suits (D : Drawn A G C w) : m_Web_suits (w, ()) = some (srt C) := by
  have := congrArg List.length D.wk
  rw [List.length_map] at this
  rw [web_suits_ok (by have := D.sl; omega), D.wk]
theorem Drawn.isG (D : Drawn A G C w) (x : Tt) : isIn x w.givers = isIn x G := by
  rw [D.wg]
  cases h : isIn x G with
  | true => exact isIn_iff.mpr ((srt_perm G).mem_iff.mpr (isIn_iff.mp h))
  | false => exact isIn_f fun z => by rw [isIn_iff.mpr ((srt_perm G).mem_iff.mp z)] at h; cases h
theorem Drawn.isC (D : Drawn A G C w) (a b : Tt) : isIn (a, b) C = doesB w a b := by
  cases h : doesB w a b with
  | true => exact isIn_iff.mpr ((D.wd a b).mp h)
  | false => exact isIn_f fun z => by rw [(D.wd a b).mpr z] at h; cases h
theorem law_meet_ok (D : Drawn A G C w) (a b : Tt) : m__law_meet (⟨A, G, C⟩, a, b, ()) = some (meetB w a b) := by
  unfold m__law_meet mb__law_meet meetB
  dsimp only
  rw [D.isG, D.isG, D.isC, D.isC]
  by_cases h1 : isIn a G = true
  · rw [if_pos h1]
    show Option.bind (flb (if isIn a G = true then _ else _) _) _ = _
    rw [if_pos h1]; rfl
  · rw [if_neg h1]
    show Option.bind (flb (if isIn a G = true then _ else _) _) _ = _
    rw [if_neg h1]
    by_cases h2 : isIn b G = true
    · rw [if_pos h2]
      show Option.bind (flb (if isIn b G = true then _ else _) _) _ = _
      rw [if_pos h2]; rfl
    · rw [if_neg h2]
      show Option.bind (flb (if isIn b G = true then _ else _) _) _ = _
      rw [if_neg h2]
      show Option.bind (Option.bind (andM (some (doesB w a b)) (some (doesB w b a))) _) _ = _
      cases doesB w a b <;> rfl
end
end Sim
namespace Sim
open PySem
end Sim
namespace Sim
open PySem L2
section
variable {w : T3 (List Tt) (List Tt) (List (Tt × Tt))} {W : WebD}
def rowE (W : WebD) (x : Int) : List (Int × Int) := ((rangeL (x + 1) (W.nms.length : Int)).filter fun y => meetI W x y).map fun y => (x, y)
def edL (W : WebD) : List (Int × Int) := (rangeL 0 (W.nms.length : Int)).flatMap (rowE W)
theorem rowE_len {W : WebD} {x : Int} (h0 : 0 ≤ x) : (rowE W x).length ≤ W.nms.length := by
  unfold rowE
  rw [List.length_map]
  refine Nat.le_trans (List.length_filter_le _ _) ?_
  rw [rangeL_length]
  omega
theorem flat_len {W : WebD} : ∀ {dn : List Int}, (∀ x ∈ dn, 0 ≤ x) → (dn.flatMap (rowE W)).length ≤ dn.length * W.nms.length
  | [], _ => by simp
  | x :: r, h => by
    have h1 := rowE_len (W := W) (h x (List.mem_cons_self ..))
    have h2 := flat_len (W := W) (dn := r) fun y m => h y (List.mem_cons_of_mem _ m)
    rw [List.flatMap_cons, List.length_append, List.length_cons, Nat.add_mul]
    omega
theorem inner_loop {W : WebD} {x : Int} {es0 : List (Int × Int)} {f : List (Int × Int) → Int → Option (List (Int × Int))} (hl : W.nms.length ≤ 20) (h0 : 0 ≤ x) (hn : es0.length ≤ 1000)
    (hf : ∀ es y, es.length ≤ 2000 → 0 ≤ y → y < (W.nms.length : Int) → f es y = some (if meetI W x y = true then es ++ [(x, y)] else es)) :
    forP f es0 (rangeL (x + 1) (W.nms.length : Int)) = some (es0 ++ rowE W x) := by
  have : Gets (forP f es0 (rangeL (x + 1) (W.nms.length : Int))) fun r => r = es0 ++ rowE W x := by
    refine gets_forP (fun dn es => es = es0 ++ (dn.filter fun y => meetI W x y).map fun y => (x, y)) (by simp) (fun dn y rs es e i => ?_) fun es i => i
    obtain ⟨hy, hy2⟩ := range_at e
    have l1 := List.length_filter_le (fun y => meetI W x y) dn
    have hle : es.length ≤ 2000 := by
      rw [i, List.length_append, List.length_map]
      omega
    refine gets_eq (hf es y hle (by omega) (by omega)) ?_
    rw [List.filter_append, List.map_append, ← List.append_assoc, ← i]
    cases hm : meetI W x y <;> simp [hm]
  obtain ⟨r, e, q⟩ := this
  rw [e, q]
theorem outer_loop {W : WebD} {f : List (Int × Int) → Int → Option (List (Int × Int))} (hl : W.nms.length ≤ 20)
    (hf : ∀ es x, es.length ≤ 400 → 0 ≤ x → x < (W.nms.length : Int) → f es x = some (es ++ rowE W x)) :
    forP f [] (rangeL 0 (W.nms.length : Int)) = some (edL W) := by
  have : Gets (forP f [] (rangeL 0 (W.nms.length : Int))) fun r => r = edL W := by
    refine gets_forP (fun dn es => es = dn.flatMap (rowE W)) (by simp) (fun dn x rs es e i => ?_) fun es i => i
    obtain ⟨hx, hx2⟩ := range_at e
    have hle : es.length ≤ 400 := by
      rw [i]
      refine Nat.le_trans (flat_len fun y m => ?_) (Nat.mul_le_mul (by omega : dn.length ≤ 20) hl)
      have : y ∈ rangeL 0 (W.nms.length : Int) := by rw [e]; simp [m]
      exact (mem_rangeL.mp this).1
    refine gets_eq (hf es x hle (by omega) (by omega)) ?_
    rw [i]
    simp
  obtain ⟨r, e, q⟩ := this
  rw [e, q]
theorem meetI_at {W : WebD} {x y : Int} {a b : Tt} (h1 : atI W.nms x = some a) (h2 : atI W.nms y = some b) : meetI W x y = meetB W a b := by unfold meetI; rw [h1, h2]
theorem edges_x {W : WebD} (hl : W.nms.length ≤ 20) : m_Web_edges (W, ()) = some (edL W) := by
  have big : BIG = 1000000 := rfl
  have e1 : prange 0 (W.nms.length : Int) = some (rangeL 0 (W.nms.length : Int)) := prange_ok (by omega) (by omega)
  unfold m_Web_edges mb_Web_edges
  simp only [web_names_ok (w := W) (by omega), Option.bind_some, e1]
  rw [outer_loop hl fun es x hle h0 hx => ?_]
  · rfl
  · have e2 : prange (x + 1) (W.nms.length : Int) = some (rangeL (x + 1) (W.nms.length : Int)) := prange_ok (by omega) (by omega)
    obtain ⟨A, hA⟩ := atI_range ⟨h0, hx⟩
    simp only [e2, Option.bind_some, hA]
    rw [inner_loop hl h0 (by omega) fun es y hle hy hy2 => ?_]
    · rfl
    · obtain ⟨B, hB⟩ := atI_range ⟨hy, hy2⟩
      simp only [hB, b2, Option.bind_some]
      rw [meetI_at hA hB]
      have wm : m_Web_may_meet (W, A, B, ()) = some (meetB W A B) := web_meet_ok
      simp only [wm, Option.bind_some]
      by_cases hm : meetB W A B = true
      · rw [if_pos hm, if_pos hm, push_ok (by omega)]; rfl
      · rw [if_neg hm, if_neg hm]; rfl
end
end Sim
namespace Sim
open PySem L2 Bl
theorem sum_le {α : Type} {f : α → Nat} {n : Nat} : ∀ {xs : List α}, (∀ x ∈ xs, f x ≤ n) → (xs.map f).sum ≤ n * xs.length
  | [], _ => by simp
  | x :: r, h => by
    have h1 := h x (List.mem_cons_self ..)
    have h2 := sum_le (f := f) (xs := r) fun y hy => h y (List.mem_cons_of_mem _ hy)
    rw [List.map_cons, List.sum_cons, List.length_cons, Nat.mul_add]
    omega
theorem shown_map {α : Type} {f : α → PyData} : ∀ xs : List α, PyData.shownAll (xs.map f) = xs.map fun x => (f x).shown
  | [] => by simp only [List.map_nil, PyData.shownAll]
  | x :: r => by simp only [List.map_cons, PyData.shownAll, shown_map r]
theorem shown_text {t : Tt} (h : NameT t) : (datT t).shown.length ≤ 122 := by
  have e : (datT t).shown = reprText t.s := by simp only [datT, PyData.shown]
  have := StrLaws.reprText_len t.s fun c hc => by
    have := h.2 c hc
    omega
  have l := tl_len t
  have := h.1.2
  rw [e]; omega
theorem shown_pair {p : Tt × Tt} (h1 : NameT p.1) (h2 : NameT p.2) : (datP p).shown.length ≤ 260 := by
  have e : (datP p).shown = tupleText [reprText p.1.s, reprText p.2.s] := by simp only [datP, PyData.shown, PyData.shownAll]
  have q := tupleText_len_le [reprText p.1.s, reprText p.2.s]
  have a := shown_text h1
  have b := shown_text h2
  simp only [datT, PyData.shown] at a b
  rw [e]
  simp only [List.map_cons, List.map_nil, List.sum_cons, List.sum_nil, List.length_cons, List.length_nil] at q
  omega
theorem shown_list {α : Type} {f : α → PyData} {xs : List α} {n : Nat} (h : ∀ x ∈ xs, (f x).shown.length ≤ n) : (PyData.list (xs.map f)).shown.length ≤ (n + 2) * xs.length + 3 := by
  have e : (PyData.list (xs.map f)).shown = listText (xs.map fun x => (f x).shown) := by simp only [PyData.shown, shown_map]
  have q := listText_len_le (xs.map fun x => (f x).shown)
  rw [e]
  rw [List.map_map, List.length_map] at q
  have s := sum_le (f := (fun s : Str => s.length) ∘ fun x => (f x).shown) (xs := xs) h
  rw [Nat.add_mul]
  omega
theorem repr3_ok {z : O3} (ha : z.a.length ≤ 16) (hb : z.b.length ≤ 16) (hc : z.c.length ≤ 1000) (na : ∀ x ∈ z.a, NameT x) (nb : ∀ x ∈ z.b, NameT x) (nc : ∀ p ∈ z.c, NameT p.1 ∧ NameT p.2) : ∃ t, repr3 z = some t := by
  unfold repr3
  have qa := shown_list (f := datT) (xs := z.a) (n := 122) fun x hx => shown_text (na x hx)
  have qb := shown_list (f := datT) (xs := z.b) (n := 122) fun x hx => shown_text (nb x hx)
  have qc := shown_list (f := datP) (xs := z.c) (n := 260) fun x hx => shown_pair (nc x hx).1 (nc x hx).2
  have ma : (122 + 2) * z.a.length ≤ (122 + 2) * 16 := Nat.mul_le_mul_left _ ha
  have mb : (122 + 2) * z.b.length ≤ (122 + 2) * 16 := Nat.mul_le_mul_left _ hb
  have mc : (260 + 2) * z.c.length ≤ (260 + 2) * 1000 := Nat.mul_le_mul_left _ hc
  have e : (dat3 z).shown = listText [(PyData.list (z.a.map datT)).shown, (PyData.list (z.b.map datT)).shown, (PyData.list (z.c.map datP)).shown] := by
    show (PyData.list _).shown = _
    conv => lhs; unfold PyData.shown
    simp only [PyData.shownAll]
  have q := listText_len_le [(PyData.list (z.a.map datT)).shown, (PyData.list (z.b.map datT)).shown, (PyData.list (z.c.map datP)).shown]
  simp only [List.map_cons, List.map_nil, List.sum_cons, List.sum_nil, List.length_cons, List.length_nil] at q
  refine ⟨_, if_pos ?_⟩
  rw [e, sizeLine_eq]
  omega
theorem turn30 {α : Type} {rows : List α} {c : Int} (hl : rows.length ≤ 1000) : Gets (forP (fun (s3 : (List α) × (List α)) (x4 : Int) =>
  ((((pdiv c (x4 + (1 : Int))).bind fun w5 => pmod w5 ((s3.1).length : Int)).bind fun w6 => ppopAt s3.1 w6).bind fun q => (push s3.2 q.1).bind fun ys => some (q.2, ys)).bind fun (z7 : ((List α) × (List α))) =>
  (some (z7.1, z7.2))) (rows, []) (rangeL 0 (rows.length : Int))) fun s => s.2.Perm rows := by
  have big : BIG = 1000000 := rfl
  refine gets_forP (fun dn s => (s.2 ++ s.1).Perm rows ∧ s.1.length + dn.length = rows.length) ⟨by simp, by simp⟩ (fun dn x rs s e ⟨i2, i3⟩ => ?_) fun s ⟨i2, i3⟩ => ?_
  · have hx : x ∈ rangeL 0 (rows.length : Int) := by rw [e]; simp
    have hx := mem_rangeL.mp hx
    have hd : dn.length < rows.length := by
      have := congrArg List.length e
      rw [rangeL_length, List.length_append, List.length_cons] at this
      omega
    have hp : 0 < s.1.length := by omega
    have m0 := Int.emod_nonneg (c / (x + 1)) (b := (s.1.length : Int)) (by omega)
    have m1 := Int.emod_lt_of_pos (c / (x + 1)) (b := (s.1.length : Int)) (by omega)
    obtain ⟨j, hj⟩ := Int.eq_ofNat_of_zero_le m0
    have hjl : j < s.1.length := by omega
    have hpm := get_erase_perm hjl
    have hlen := i2.length_eq
    rw [List.length_append] at hlen
    refine gets_bind (gets_bind (gets_bind (gets_bind (gets_eq (pdiv_ok (by omega) (by omega)) (gets_eq (pmod_ok (by omega)) ?_)))))
    rw [hj]
    refine gets_eq (ppopAt_ok (by omega) (List.getElem?_eq_getElem hjl)) (gets_bind (gets_eq (push_ok (by omega)) (gets_some (gets_some ⟨?_, ?_⟩))))
    · show ((s.2 ++ [s.1[j]]) ++ s.1.eraseIdx j).Perm rows
      rw [List.append_assoc]
      exact (List.Perm.append_left s.2 hpm).trans i2
    · show (s.1.eraseIdx j).length + (dn ++ [x]).length = rows.length
      rw [List.length_eraseIdx_of_lt hjl, List.length_append]
      simp; omega
  · rw [rangeL_length] at i3
    have h0 : s.1 = [] := List.eq_nil_of_length_eq_zero (by omega)
    rw [h0, List.append_nil] at i2
    exact i2
theorem turned30 {rows : List Tt} {c : Int} (hl : rows.length ≤ 1000) : Gets (m__law_turned (rows, c, ())) fun r => r.Perm rows := by
  unfold m__law_turned mb__law_turned
  exact gets_bind (gets_step rfl (gets_step rfl (gets_bind (gets_bind (gets_eq (prange_ok (by decide) (by show Int.natAbs (rows.length : Int) < _; omega)) (gets_mono (turn30 hl) fun s q => gets_some (gets_some q)))))))
theorem turnedP30 {rows : List (Tt × Tt)} {c : Int} (hl : rows.length ≤ 1000) : Gets (m__law_turnedP (rows, c, ())) fun r => r.Perm rows := by
  unfold m__law_turnedP mb__law_turnedP
  exact gets_bind (gets_step rfl (gets_step rfl (gets_bind (gets_bind (gets_eq (prange_ok (by decide) (by show Int.natAbs (rows.length : Int) < _; omega)) (gets_mono (turn30 hl) fun s q => gets_some (gets_some q)))))))
abbrev str4 : List Tt := [(Tt.mk "q" (by decide +kernel)), (Tt.mk "qq" (by decide +kernel)), (Tt.mk "zebra" (by decide +kernel)), (Tt.mk "qzqz" (by decide +kernel))]
theorem tl_zeb : tl (Tt.mk "zebra" (by decide +kernel)) = [122, 101, 98, 114, 97] := by decide +kernel
theorem tl_qz : tl (Tt.mk "qzqz" (by decide +kernel)) = [113, 122, 113, 122] := by decide +kernel
theorem no_zeb {a n b j : Nat} (hj : j ≤ 1) : [122, 101, 98, 114, 97] ≠ List.replicate n a ++ List.replicate j b := fun e => by
  have l := congrArg List.length e
  simp only [List.length_append, List.length_replicate, List.length_cons, List.length_nil] at l
  have g0 := congrArg (fun l => l[0]?) e
  have g1 := congrArg (fun l => l[1]?) e
  have hn : 2 ≤ n := by omega
  simp only [List.getElem?_append, List.length_replicate, List.getElem?_replicate] at g0 g1
  rw [if_pos (by omega), if_pos (by omega)] at g0 g1
  simp at g0 g1
  omega
theorem no_qz {a n b j : Nat} (hj : j ≤ 1) : [113, 122, 113, 122] ≠ List.replicate n a ++ List.replicate j b := fun e => by
  have l := congrArg List.length e
  simp only [List.length_append, List.length_replicate, List.length_cons, List.length_nil] at l
  have g0 := congrArg (fun l => l[0]?) e
  have g1 := congrArg (fun l => l[1]?) e
  have hn : 2 ≤ n := by omega
  simp only [List.getElem?_append, List.length_replicate, List.getElem?_replicate] at g0 g1
  rw [if_pos (by omega), if_pos (by omega)] at g0 g1
  simp at g0 g1
  omega
theorem f4 {α : Type} (p : α → Bool) (a b c d : α) : ([a, b, c, d].filter p).length = (if p a = true then 1 else 0) + (if p b = true then 1 else 0) + (if p c = true then 1 else 0) + (if p d = true then 1 else 0) := by
  simp only [List.filter_cons, List.filter_nil]
  cases p a <;> cases p b <;> cases p c <;> cases p d <;> rfl
abbrev s4a : Tt := Tt.mk "q" (by decide +kernel)
abbrev s4b : Tt := Tt.mk "qq" (by decide +kernel)
abbrev s4c : Tt := Tt.mk "zebra" (by decide +kernel)
abbrev s4d : Tt := Tt.mk "qzqz" (by decide +kernel)
theorem l4a : (tl s4a).length = 1 := by decide +kernel
theorem l4b : (tl s4b).length = 2 := by decide +kernel
theorem l4c : (tl s4c).length = 5 := by decide +kernel
theorem l4d : (tl s4d).length = 4 := by decide +kernel
theorem strange_two {ws : List Tt} (h : FormQ ws) : 2 ≤ (str4.filter fun x => !isIn x ws).length := by
  have key := f4 (fun x => !isIn x ws) s4a s4b s4c s4d
  have key : (str4.filter fun x => !isIn x ws).length = _ := key
  rw [key]
  rcases h with ⟨i, h⟩ | ⟨a, h⟩
  · have ne : ∀ x y : Tt, (tl x).length ≠ (tl y).length → isIn x ws = true → isIn y ws = true → False := fun x y hxy hx hy => hxy (h x (isIn_iff.mp hx) y (isIn_iff.mp hy)).1
    have n01 := ne s4a s4b (by rw [l4a, l4b]; decide)
    have n02 := ne s4a s4c (by rw [l4a, l4c]; decide)
    have n03 := ne s4a s4d (by rw [l4a, l4d]; decide)
    have n12 := ne s4b s4c (by rw [l4b, l4c]; decide)
    have n13 := ne s4b s4d (by rw [l4b, l4d]; decide)
    have n23 := ne s4c s4d (by rw [l4c, l4d]; decide)
    generalize isIn s4a ws = b0 at n01 n02 n03 ⊢
    generalize isIn s4b ws = b1 at n01 n12 n13 ⊢
    generalize isIn s4c ws = b2 at n02 n12 n23 ⊢
    generalize isIn s4d ws = b3 at n03 n13 n23 ⊢
    revert n01 n02 n03 n12 n13 n23
    cases b0 <;> cases b1 <;> cases b2 <;> cases b3 <;> first | decide | simp
  · have z2 : isIn s4c ws = false := Bool.eq_false_iff.mpr fun q => by
      obtain ⟨n, b, j, hj, _, e⟩ := h _ (isIn_iff.mp q)
      exact no_zeb hj (tl_zeb.symm.trans e)
    have z3 : isIn s4d ws = false := Bool.eq_false_iff.mpr fun q => by
      obtain ⟨n, b, j, hj, _, e⟩ := h _ (isIn_iff.mp q)
      exact no_qz hj (tl_qz.symm.trans e)
    rw [z2, z3]
    generalize isIn s4a ws = b0
    generalize isIn s4b ws = b1
    cases b0 <;> cases b1 <;> decide
end Sim
namespace Sim
open PySem L2 Bl
theorem rng_gt (k : Nat) : ∀ n : Nat, ((List.range n).filter fun i => decide (k ≤ i)) = (List.range (n - k)).map fun i => k + i
  | 0 => by simp
  | n + 1 => by
    rw [List.range_succ, List.filter_append, rng_gt k n]
    by_cases h : k ≤ n
    · have e : n + 1 - k = (n - k) + 1 := by omega
      rw [e, List.range_succ, List.map_append]
      simp [h]
    · have e1 : n + 1 - k = 0 := by omega
      have e2 : n - k = 0 := by omega
      rw [e1, e2]
      simp [h]
theorem rngL_gt {x n : Int} (h0 : 0 ≤ x) : (rangeL 0 n).filter (fun y => decide (x < y)) = rangeL (x + 1) n := by
  obtain ⟨k, rfl⟩ := Int.eq_ofNat_of_zero_le h0
  unfold rangeL
  rw [List.filter_map]
  have e : ((fun y : Int => decide ((k : Int) < y)) ∘ fun i : Nat => 0 + (i : Int)) = fun i : Nat => decide (k + 1 ≤ i) := by
    funext i
    show decide ((k : Int) < 0 + (i : Int)) = decide (k + 1 ≤ i)
    exact decide_eq_decide.mpr (by omega)
  rw [e, rng_gt, List.map_map]
  have e2 : (n - 0).toNat - (k + 1) = (n - ((k : Int) + 1)).toNat := by omega
  rw [e2]
  refine List.map_congr_left fun i _ => ?_
  show (0 : Int) + ((k + 1 + i : Nat) : Int) = (k : Int) + 1 + (i : Int)
  omega
theorem row30 {W : WebD} {x : Int} (h0 : 0 ≤ x) : ((rangeL 0 (W.nms.length : Int)).filter fun y => decide (x < y) && meetI W x y).map (fun y => (x, y)) = rowE W x := by
  unfold rowE
  rw [← rngL_gt h0, List.filter_filter]
  congr 1
  refine List.filter_congr fun y _ => ?_
  exact Bool.and_comm _ _
theorem edL_len {W : WebD} (hl : W.nms.length ≤ 16) : (edL W).length ≤ 256 := by
  unfold edL
  refine Nat.le_trans (flat_len fun y m => (mem_rangeL.mp m).1) ?_
  rw [rangeL_length]
  have : ((W.nms.length : Int) - 0).toNat = W.nms.length := by omega
  rw [this]
  exact Nat.mul_le_mul hl hl
theorem srt_same {α : Type} [Tot α] {xs ys : List α} (p : xs.Perm ys) : srt xs = srt ys := srt_uniq ((srt_perm xs).trans p) (srt_pair xs)
theorem spoil3 {n : Nat} (h : n ≤ 900000) {α : Type} {x : α} : Gets (forG3 (fun (s8 : Nat) =>
  ((some x).bind fun _ => if s8 + 1 ≤ BIG then some (s8 + 1) else none).bind fun (z10 : Nat) =>
  (some (max s8 z10))) n) fun _ => True := by
  have big : BIG = 1000000 := rfl
  have st : ∀ m : Nat, m ≤ 900010 → (((some x).bind fun _ => if m + 1 ≤ BIG then some (m + 1) else none).bind fun (z10 : Nat) => (some (max m z10))) = some (m + 1) := fun m hm => by
    show Option.bind (if m + 1 ≤ BIG then some (m + 1) else none) _ = _
    rw [if_pos (by omega)]
    show some (max m (m + 1)) = some (m + 1)
    rw [Nat.max_eq_right (Nat.le_succ m)]
  unfold forG3
  exact gets_step (st n (by omega)) (gets_step (st (n + 1) (by omega)) (gets_step (st (n + 2) (by omega)) (gets_some trivial)))
theorem none_does {A G : List Tt} {C : List (Tt × Tt)} {w : WebD} (D : Drawn A G C w) (su : ∀ q ∈ C, (q.1 ∈ A ∨ q.1 ∈ G) ∧ q.2 ∈ A ∧ q.1 ≠ q.2) {a b : Tt} (h : a = b ∨ a ∉ A ++ G ∨ b ∉ A ++ G) : doesB w a b = false := by
  cases e : doesB w a b with
  | false => rfl
  | true =>
    obtain ⟨h1, h2, h3⟩ := su _ ((D.wd a b).mp e)
    rcases h with z | z | z
    · exact absurd z h3
    · exact absurd (List.mem_append.mpr h1) z
    · exact absurd (List.mem_append.mpr (.inl h2)) z
theorem none_meets {A G : List Tt} {C : List (Tt × Tt)} {w : WebD} (D : Drawn A G C w) {a b : Tt} (h : a = b ∨ a ∉ A ++ G ∨ b ∉ A ++ G) : meetB w a b = false := by
  cases e : meetB w a b with
  | false => rfl
  | true =>
    obtain ⟨h1, h2, h3⟩ := meet_in D.ok e
    rw [D.mem] at h1 h2
    rcases h with z | z | z
    · exact absurd z h3
    · exact absurd h1 z
    · exact absurd h2 z
end Sim
namespace Sim
open PySem L2 Bl
theorem web_L : m_Web___init___L = m_Web___init__ := rfl
theorem law_true (ns : List Int) (hl : ns.length ≤ 63) : m_law (⟨ns⟩, ()) = some true := by
  have big : BIG = 1000000 := rfl
  suffices h : Gets (m_law (⟨ns⟩, ())) fun r => r = true by
    obtain ⟨r, e, q⟩ := h
    rw [e, q]
  obtain ⟨c, ec⟩ := cell_ok ns (k := 47) (by omega) (by omega)
  unfold m_law mb_law
  refine gets_bind (gets_bind ?_)
  show Gets (m__law_web (⟨ns⟩, 16, ())) _
  refine gets_mono (law_web_ok ns (by omega) (by omega)) ?_
  rintro ⟨A, G, C⟩ q
  have hlen : A.length + G.length ≤ 16 := by have := q.len; simp only at this; omega
  have hC : C.length ≤ 1000 := q.sl
  refine gets_bind ?_
  show Gets (m__law_cell (⟨ns⟩, 47, ())) _
  refine gets_eq ec ?_
  refine gets_bind (gets_step (x := A) rfl ?_)
  refine gets_bind ?_
  show Gets (m__law_turned (G, c, ())) _
  refine gets_mono (turned30 (by omega)) fun G' pG => ?_
  refine gets_bind ?_
  rw [show pdiv c 3 = some (c / 3) from pdiv_ok (by omega) (by omega)]
  show Gets (m__law_turnedP (C, c / 3, ())) _
  refine gets_mono (turnedP30 (by omega)) fun C' pC => ?_
  refine gets_some ?_
  have lG := pG.length_eq
  have lC := pC.length_eq
  have mem' : ∀ x, x ∈ A ++ G' ↔ x ∈ A ++ G := fun x => by rw [List.mem_append, List.mem_append, pG.mem_iff]
  have q' : WebQ 16 ⟨A, G', C'⟩ := ⟨by have := q.len; simp only at this ⊢; omega, (List.Perm.append_left A pG).nodup_iff.mpr q.nd, fun z hz => q.nm z ((mem' z).mp hz), fun r hr => by
    have := q.su r (pC.mem_iff.mp hr)
    exact ⟨this.1.imp_right pG.mem_iff.mpr, this.2⟩, pC.nodup_iff.mpr q.sn, by show C'.length ≤ 1000; omega, q.fm.sub fun x hx => (mem' x).mp hx⟩
  obtain ⟨t, et⟩ := repr3_ok (z := ⟨A, G', C'⟩) (by show A.length ≤ 16; omega) (by show G'.length ≤ 16; omega) (by show C'.length ≤ 1000; omega) (fun x hx => q'.nm x (List.mem_append_left _ hx)) (fun x hx => q'.nm x (List.mem_append_right _ hx)) (fun p hp => by
    have := q'.su p hp
    exact ⟨q'.nm _ (List.mem_append.mpr this.1), q'.nm _ (List.mem_append.mpr (.inl this.2.1))⟩)
  refine gets_step et ?_
  obtain ⟨w, ew, D⟩ := webq_drawn (by omega) q'
  refine gets_bind ?_
  show Gets (Option.bind (m_Web___init___L (A, G', C', ())) _) _
  rw [web_L, ew]
  refine gets_some (gets_flb ?_)
  rw [et]
  show Gets (if (!decide (t = t)) = true then _ else _) _
  rw [decide_eq_true rfl]
  refine gets_some ?_
  refine gets_bind (gets_mono (spoil3 (by show A.length + G'.length + C'.length ≤ 900000; omega)) fun _ _ => ?_)
  have sG : srt G' = srt G := srt_same pG
  have sC : srt C' = srt C := srt_same pC
  have hn : w.nms = A ++ srt G := by rw [D.nms, sG]
  have hnl : w.nms.length ≤ 16 := by rw [hn, List.length_append, (srt_perm G).length_eq]; exact hlen
  have lsG : (srt G).length = G.length := (srt_perm G).length_eq
  refine gets_step (x := w.nms) (by rw [hn]; exact pcat_ok (by show A.length + (srt G).length ≤ BIG; rw [lsG]; omega)) (gets_flb ?_)
  have eN : m_Web_names (w, ()) = some w.nms := web_names_ok (by omega)
  have eS : m_Web_suits (w, ()) = some (srt C) := by rw [D.suits, sC]
  have eE : m_Web_edges (w, ()) = some (edL w) := edges_x (by omega)
  have wp : w.pairs = A := D.wp
  have wg : w.givers = srt G := D.wg.trans sG
  refine gets_step (x := false) ?_ (gets_some ?_)
  · show orM (some (!decide (w.pairs = A))) (orM (some (!decide (w.givers = srt G))) (orM ((m_Web_names (w, ())).bind fun w12 => some (!decide (w12 = w.nms))) ((m_Web_suits (w, ())).bind fun w13 => some (!decide (w13 = srt C))))) = some false
    rw [eN, eS, wp, wg, decide_eq_true rfl, decide_eq_true rfl]
    show orM (some (!true)) (orM (some (!true)) (orM (some (!decide (w.nms = w.nms))) (some (!decide (srt C = srt C))))) = _
    rw [decide_eq_true rfl, decide_eq_true rfl]
    rfl
  have e1 : prange 0 (w.nms.length : Int) = some (rangeL 0 (w.nms.length : Int)) := prange_ok (by omega) (by omega)
  refine gets_step rfl (gets_flb ?_)
  refine gets_step e1 ?_
  refine gets_forF (fun dn es => es = dn.flatMap (rowE w)) rfl ?_ ?_
  · rintro dn x rs es e i
    obtain ⟨hx, hx2⟩ := range_at e
    have hx0 : 0 ≤ x := by omega
    have hxn : x < (w.nms.length : Int) := by omega
    have hle : es.length ≤ 400 := by
      rw [i]
      refine Nat.le_trans (flat_len fun y m => ?_) (Nat.mul_le_mul (by omega : dn.length ≤ 20) (by omega : w.nms.length ≤ 20))
      have : y ∈ rangeL 0 (w.nms.length : Int) := by rw [e]; simp [m]
      exact (mem_rangeL.mp this).1
    refine gets_flb (gets_step e1 ?_)
    refine gets_forF (fun dn2 es2 => es2 = es ++ (dn2.filter fun y => decide (x < y) && meetI w x y).map fun y => (x, y)) (by simp) ?_ ?_
    · rintro dn2 y rs2 es2 e2 i2
      obtain ⟨hy, hy2⟩ := range_at e2
      have hy0 : 0 ≤ y := by omega
      have hyn : y < (w.nms.length : Int) := by omega
      have hle2 : es2.length ≤ 500 := by
        have := List.length_filter_le (fun y => decide (x < y) && meetI w x y) dn2
        rw [i2, List.length_append, List.length_map]
        omega
      obtain ⟨a, ha⟩ := atI_range (xs := w.nms) ⟨hx0, hxn⟩
      obtain ⟨b, hb⟩ := atI_range (xs := w.nms) ⟨hy0, hyn⟩
      have mI : meetI w x y = meetB w a b := meetI_at ha hb
      have am : a ∈ w.nms := by
        have := atI_nat (xs := w.nms) (i := x.toNat) (List.getElem?_eq_getElem (by omega))
        rw [Int.toNat_of_nonneg hx0, ha] at this
        rw [Option.some.inj this]; exact List.getElem_mem _
      refine gets_flb (gets_step (x := !decide (x = y)) rfl ?_)
      by_cases hxy : x = y
      · rw [decide_eq_true hxy]
        refine gets_some (gets_some ?_)
        have nl : ¬ x < y := by omega
        show es2 = es ++ ((dn2 ++ [y]).filter (fun y => decide (x < y) && meetI w x y)).map (fun y => (x, y))
        rw [i2, List.filter_append, List.map_append]
        simp [nl]
      · rw [decide_eq_false hxy]
        have wm : m_Web_may_meet (w, a, b, ()) = some (meetB w a b) := web_meet_ok
        have wd : m_Web_does_suit (w, a, b, ()) = some (doesB w a b) := web_does_ok
        refine gets_bind (Q := _) ?_
        show Gets (Option.bind (b2 (atI w.nms x) (b2 (atI w.nms y) (some ()) _) _) _) _
        rw [ha, hb]
        show Gets (m_Web_may_meet (w, a, b, ())) _
        refine gets_eq wm ?_
        refine gets_bind (Q := _) ?_
        show Gets (m_Web_does_suit (w, a, b, ())) _
        refine gets_eq wd ?_
        refine gets_flb (gets_step (x := false) ?_ (gets_some ?_))
        · cases meetB w a b <;> cases doesB w a b <;> rfl
        refine gets_flb (gets_step (x := false) ?_ (gets_some ?_))
        · have lm : m__law_meet (⟨A, G, C⟩, a, b, ()) = some (meetB w a b) := by
            have := law_meet_ok D a b
            rw [← this]
            unfold m__law_meet mb__law_meet
            have g1 : ∀ x, isIn x G' = isIn x G := fun x => by rw [Bool.eq_iff_iff, isIn_iff, isIn_iff, pG.mem_iff]
            have g2 : ∀ x, isIn x C' = isIn x C := fun x => by rw [Bool.eq_iff_iff, isIn_iff, isIn_iff, pC.mem_iff]
            simp only [g1, g2]
          have lc : isIn (a, b) C = doesB w a b := by
            rw [← D.isC, Bool.eq_iff_iff, isIn_iff, isIn_iff, pC.mem_iff]
          show orM ((m__law_meet (⟨A, G, C⟩, a, b, ())).bind fun w24 => some (!decide (meetB w a b = w24))) (some (!decide (doesB w a b = isIn (a, b) C))) = some false
          rw [lm, lc]
          show orM (some (!decide (meetB w a b = meetB w a b))) (some (!decide (doesB w a b = doesB w a b))) = some false
          rw [decide_eq_true rfl, decide_eq_true rfl]
          rfl
        refine gets_bind (gets_step (x := meetB w a b && decide (x < y)) (by cases meetB w a b <;> rfl) ?_)
        rw [i2]
        refine gets_if (fun hm => ?_) (fun hm => ?_)
        · refine gets_step (push_ok (by rw [← i2]; omega)) (gets_some (gets_some (gets_some ?_)))
          show (es ++ (dn2.filter (fun y => decide (x < y) && meetI w x y)).map fun y => (x, y)) ++ [(x, y)] = es ++ ((dn2 ++ [y]).filter (fun y => decide (x < y) && meetI w x y)).map (fun y => (x, y))
          rw [List.filter_append, List.map_append, ← List.append_assoc]
          rw [Bool.and_comm, ← mI] at hm
          rw [List.filter_cons, if_pos hm]
          rfl
        · refine gets_some (gets_some (gets_some ?_))
          show (es ++ (dn2.filter (fun y => decide (x < y) && meetI w x y)).map fun y => (x, y)) = es ++ ((dn2 ++ [y]).filter (fun y => decide (x < y) && meetI w x y)).map (fun y => (x, y))
          rw [List.filter_append, List.map_append]
          rw [Bool.and_comm, ← mI] at hm
          rw [List.filter_cons, if_neg (by rw [hm]; exact Bool.false_ne_true)]
          simp
    · intro es2 i2
      refine gets_some ?_
      rw [row30 hx0] at i2
      show es2 = (dn ++ [x]).flatMap (rowE w)
      rw [i2, i, List.flatMap_append]
      simp
  intro es ie
  have ie : es = edL w := ie
  subst ie
  -- a stranger
  have two := strange_two (ws := w.nms) (q'.fm.sub fun x hx => (D.mem x).mp hx)
  refine gets_bind ?_
  refine gets_step (x := str4.filter fun x => !isIn x w.nms) ?_ ?_
  · have := lcB_ok (t := fun x => some (!isIn x w.nms)) (f := fun x : Tt => some x) (xs := str4) (fun x => !isIn x w.nms) id (by decide) (fun _ _ => rfl) fun _ _ _ => rfl
    rw [List.map_id] at this
    exact this
  have m2 := Int.emod_nonneg c (b := 2) (by omega)
  have m3 := Int.emod_lt_of_pos c (b := 2) (by omega)
  refine gets_step (pmod_ok (by omega)) ?_
  obtain ⟨s, es⟩ := atI_range (xs := str4.filter fun x => !isIn x w.nms) (x := c % 2) ⟨m2, by omega⟩
  refine gets_eq es ?_
  have sn : s ∉ A ++ G' := by
    have := atI_nat (xs := str4.filter fun x => !isIn x w.nms) (i := (c % 2).toNat) (List.getElem?_eq_getElem (by omega))
    rw [Int.toNat_of_nonneg m2, es] at this
    have hm := List.getElem_mem (l := str4.filter fun x => !isIn x w.nms) (n := (c % 2).toNat) (by omega)
    rw [← Option.some.inj this] at hm
    have hm := (List.mem_filter.mp hm).2
    rw [← D.mem]
    intro z
    rw [isIn_iff.mpr z] at hm
    cases hm
  refine gets_flb (gets_step (pcat_ok (show w.nms.length + 1 ≤ BIG by omega)) ?_)
  refine gets_forF (fun _ _ => True) trivial ?_ fun _ _ => ?_
  · rintro dn x rs _ e _
    refine gets_step rfl (gets_flb (gets_step (x := [(x, x), (x, s), (s, x)]) rfl ?_))
    refine gets_forF (fun _ _ => True) trivial ?_ fun _ _ => gets_some trivial
    rintro dn2 ⟨a, b⟩ rs2 _ e2 _
    have hab : a = b ∨ a ∉ A ++ G' ∨ b ∉ A ++ G' := by
      have : (a, b) ∈ [(x, x), (x, s), (s, x)] := by rw [e2]; simp
      simp only [List.mem_cons, List.not_mem_nil, or_false] at this
      rcases this with z | z | z <;> cases z
      · exact .inl rfl
      · exact .inr (.inr sn)
      · exact .inr (.inl sn)
    refine gets_flb (gets_step (x := false) ?_ (gets_some (gets_some trivial)))
    show orM ((m_Web_may_meet (w, a, b, ())).bind fun w41 => some (!decide (w41 = false))) ((m_Web_does_suit (w, a, b, ())).bind fun w42 => some (!decide (w42 = false))) = some false
    have wm : m_Web_may_meet (w, a, b, ()) = some false := by rw [web_meet_ok, none_meets D hab]
    have wd : m_Web_does_suit (w, a, b, ()) = some false := by rw [web_does_ok, none_does D q'.su hab]
    rw [wm, wd]
    rfl
  refine gets_flb ?_
  show Gets (Option.bind (Option.bind (m_Web_edges (w, ())) _) _) _
  rw [eE]
  show Gets (if (!decide (edL w = edL w)) = true then _ else _) _
  rw [decide_eq_true rfl]
  refine gets_some (gets_flb (gets_step (x := edL w) rfl ?_))
  refine gets_forF (fun _ _ => True) trivial (fun _ _ _ _ _ _ => gets_flb (gets_step (x := false) rfl (gets_some (gets_some trivial)))) fun _ _ => ?_
  refine gets_flb ?_
  show Gets (Option.bind (Option.bind (Option.bind (m_Web_names (w, ())) _) _) _) _
  rw [eN]
  show Gets (Option.bind (Option.bind (Option.bind (m_Web_suits (w, ())) _) _) _) _
  rw [eS]
  show Gets (if (!decide ((R4.mk w.pairs w.givers w.nms (srt C)) = (R4.mk A (srt G) w.nms (srt C)))) = true then _ else _) _
  rw [decide_eq_true (by rw [wp, wg])]
  refine gets_some ?_
  have hel := edL_len hnl
  have hcl : (srt C).length ≤ 1000 := by rw [(srt_perm C).length_eq]; exact hC
  refine gets_step (x := ()) (if_pos (by omega)) (gets_step (x := ()) (if_pos (by omega)) (gets_step (x := ()) (if_pos (by omega)) (gets_step (x := true) ?_ (gets_some (gets_some rfl)))))
  show andM (some (decide (edL w = edL w))) (andM (some (decide (w.nms = w.nms))) (some (decide (srt C = srt C)))) = some true
  rw [decide_eq_true rfl, decide_eq_true rfl, decide_eq_true rfl]
  rfl
end Sim
open PySem PySem.W PySem.Calls PyProof.Rows
theorem PySem.Challenge.cw_pairswap_k30_webs_and_who_may_meet_holds : PySem.Challenge.rw_pairswap_k30_webs_and_who_may_meet.Holds := by
  w_on; o_law
  refine HandSHeadRun.head_any (r := OpenLaw.row PySem.Challenge.rw_pairswap_k30_webs_and_who_may_meet) (q := view (OpenLaw.row PySem.Challenge.rw_pairswap_k30_webs_and_who_may_meet).prog [22]) (H := HeadT.hk) (ob := HeadT.ob) (M := 6000) (loose := HeadT.lo) (d := HandSHeadRun.topDef (OpenLaw.row PySem.Challenge.rw_pairswap_k30_webs_and_who_may_meet).prog 22) (kwd := []) HeadT.ob_eq
    (by kernel_rfl) (fun s => by kernel_rfl) HeadT.run (by kernel_rfl) (by kernel_rfl) (by kernel_rfl) (by rfl) (by first | assumption | decide +kernel) (by decide +kernel) ⟨rfl, rfl, rfl, rfl, rfl, by decide +kernel⟩ ?hw ?hc
  case hw => w_witness2
  case hc =>
    refine Sim.walk_law1 (l := PySem.Challenge.rw_pairswap_k30_webs_and_who_may_meet) (n := 63) (x := "_law_script") rfl (by decide) (by kernel_rfl) ?F
    intro w mg fa h Y G hmg0
    obtain ⟨K, KX, c⟩ := Y
    obtain ⟨c, ce⟩ := c
    have hmg : mg ("law" : PySem.Str) = some (.ref fa) := by
      have e : (HandSHeadRun.topDef (OpenLaw.row PySem.Challenge.rw_pairswap_k30_webs_and_who_may_meet).prog 22).name = ("law" : PySem.Str) := by kernel_rfl
      rw [← e]
      exact hmg0
    obtain ⟨fd, F⟩ := c.def_ 18 (d := HeadT.D_law) rfl
    have e := hmg.symm.trans (He.glo_ok KX G (c.fact 36 (f := .glo "law") rfl))
    cases e
    have b := L2.FunD.bindsA (ps := ["_law_script"]) F fun _ _ _ _ _ _ us hl => match us, hl with | [_], _ => rfl
    refine ⟨K, fd, Sim.specP ⟨(PySem.Challenge.rw_pairswap_k30_webs_and_who_may_meet).prog, w, K, mg, h, Sim.Cn K⟩ false Sim.m_law, KX, fun s v => b s [v] rfl, fun H a ns hl _ hS => Sim.law_start hS (Sim.law_true ns hl), fun base hb1 hb2 => ?_⟩
    exact Sim.f_law (Γ := ⟨(PySem.Challenge.rw_pairswap_k30_webs_and_who_may_meet).prog, w, K, mg, base, Sim.Cn K⟩) (Sim.tx_ok KX G c ce) (Sim.fun_of (st := HeadT.top 22) F)
