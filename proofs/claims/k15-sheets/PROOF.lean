import PyProof.Rows.All
import Wide.All
import OpenK.AllK
import Wide.FinOn
import PySem.Challenge.RW_everybase_k15_sheets
import HandS.ForMost
import HandS.ForExc
import HandS.Wide
import HandS.Style
import HandS.RaiseMore
import HandS.IsInst
import HandS.Flow
import HandS.FStr
import HandS.Codes
import HandS.SortInts
import HandS.Conv
import HandS.TupAny
import HandS.TupLe
import HandS.SetFor
import HandS.Walk
import KE.KTupSum
import KE.GoesEnum
import KE.KExcSuper
import KE.RegKIsAll
import HandS.Exc
import HandS.ExcOwn
import HandS.ExcField
import HandS.ExcIs
import HandS.Ends
import HandS.Star
import HandS.Property
import HandS.NoneIn
import HandS.ClsMeth
import KE.KCallOwn
import HandS.MakeKwOnly
import HandS.SlotsOwn
import KE.KOpsOwn
import KE.KIntText
import KE.KStateDown
import HandS.Defaults
import HandS.Head0
import HandS.Head1
import HandS.Head2
import HandS.HeadEnd
import HandS.HeadHook1
import HandS.HeadHook2
import HandS.HeadHook3
import HandS.Zip
import HandS.SetBool
import HandS.SetTxt0
import HandS.OwnEq
set_option Elab.async false
set_option linter.all false
set_option maxRecDepth 100000
set_option maxHeartbeats 4000000
namespace PySem
namespace SupX
open PySem.W PySem.Calls PyProof.Rows PySem.HandSPX
structure Bs where
  B : String
  newId : String
  initId : String
  bm : List Value
abbrev vE : Bs := ⟨"ValueError", "ValueError.__new__", "ValueError.__init__", [.type "ValueError", .type "Exception", .type "BaseException", .type "object"]⟩
abbrev iE : Bs := ⟨"IndexError", "IndexError.__new__", "IndexError.__init__", [.type "IndexError", .type "LookupError", .type "Exception", .type "BaseException", .type "object"]⟩
def refsT (b : List Value) : List Value → Bool
  | .ref _ :: r => refsT b r
  | l => l == b
end SupX
end PySem
namespace Eb
namespace HK
open PySem PySem.Spec PyProof.Rows L2 PySem.SupX
abbrev Fg := PySem.W.Frag
def frK {α : Type} (g : Addr → Option Obj) : List Addr → Fg → (Fg → α) → α
  | [], K, k => k K
  | a :: r, K, k => HandSHeadRun.frNat a fun a => match g a with
    | some o => frK g r ((a, o) :: K) k
    | none => frK g r K k
theorem in_cons {K : Fg} {h : Heap} {a : Addr} {o : Obj} (X : K.In h) (e : h.get? a = some o) : PySem.W.Frag.In ((a, o) :: K) h := fun b u hb => by
  have hb2 : (match b == a with | true => some o | false => K.lookup b) = some u := hb
  cases q : (b == a) with
  | true =>
    rw [q] at hb2
    rw [beq_iff_eq.mp q, e]
    exact hb2
  | false =>
    rw [q] at hb2
    exact X b u hb2
theorem frK_ex {α : Type} {h : Heap} {k : Fg → α} : ∀ (as : List Addr) (K : Fg), K.In h → ∃ K' : Fg, K'.In h ∧ frK h.get? as K k = k K'
  | [], K, X => ⟨K, X, rfl⟩
  | a :: r, K, X => by
    unfold frK
    rw [HandSHeadRun.frNat_eq]
    cases e : h.get? a with
    | none => exact frK_ex r K X
    | some o => exact frK_ex r _ (in_cons X e)
abbrev FnW : Type := Option (Str × Str × Arguments × FuncBody × Scope × Addr × Addr)
def fnW (K : Fg) (a : Addr) : FnW := match K.lookup a with
  | some ⟨_, _, .func fd, _⟩ => some (fd.name, fd.qualname, fd.params, fd.body, fd.scope, fd.globals, fd.builtins)
  | _ => none
structure Dq where
  ad : Addr
  name : Str
  qual : Str
  st : Stmt
def Dq.val (d : Dq) : FnW := some (d.name, d.qual, defArgs d.st, .stmts (defBody d.st), defScope d.st, mainGlobals, builtinsNs)
def fnB (K : Fg) (a : Addr) (qual : Str) (clo : List (Str × Addr)) (dV kV : Value) : Bool := match K.lookup a with
  | some ⟨_, _, .func fd, _⟩ => decide (fd.closure = clo) && (decide (fd.defaults = dV) && (decide (fd.kwdefaults = kV) && PySem.W.codeIn K fd.code qual))
  | _ => false
abbrev fnC (name qual : Str) (st : Stmt) (clo : List (Str × Addr)) (dV kV doc pm : Value) (an : Option Addr) (cdv ct : Value) : FuncData :=
  { name, qualname := qual, params := defArgs st, body := .stmts (defBody st), scope := defScope st, globals := mainGlobals, closure := clo, defaults := dV, kwdefaults := kV, doc, pyModule := pm, annotations := an, code := cdv, closureTuple := ct, builtins := builtinsNs }
theorem fn_get {K : Fg} {d : Dq} {clo : List (Str × Addr)} {dV kV : Value} (e : fnW K d.ad = d.val) (c : fnB K d.ad d.qual clo dV kV = true) :
    ∃ oc od osl doc pm an cdv ct, K.lookup d.ad = some ⟨oc, od, .func (fnC d.name d.qual d.st clo dV kV doc pm an cdv ct), osl⟩ ∧ PySem.W.codeIn K cdv d.qual = true := by
  unfold fnB at c
  unfold fnW at e
  cases q : K.lookup d.ad with
  | none => rw [q] at c; cases c
  | some o =>
    obtain ⟨oc, od, dt, osl⟩ := o
    rw [q] at c e
    cases dt with
    | func fd =>
      obtain ⟨n1, n2, n3, n4, n5, n6, n7, n8, n9, n10, n11, n12, n13, n14, n15⟩ := fd
      have e2 : (some (n1, n2, n3, n4, n5, n6, n15) : FnW) = some (d.name, d.qual, defArgs d.st, .stmts (defBody d.st), defScope d.st, mainGlobals, builtinsNs) := e
      simp only [Option.some.injEq, Prod.mk.injEq] at e2
      obtain ⟨h1, h2, h3, h4, h5, h6, h7⟩ := e2
      simp only [Bool.and_eq_true, decide_eq_true_eq] at c
      obtain ⟨c1, c2, c3, c4⟩ := c
      subst h1 h2 h3 h4 h5 h6 h7 c1 c2 c3
      exact ⟨oc, od, osl, n10, n11, n12, n13, n14, rfl, c4⟩
    | _ => cases c
theorem keep_fn {K : Fg} {f : Addr} {oc : Value} {od : Option Addr} {fd : FuncData} {osl : Array (Option Value)} (e : K.lookup f = some ⟨oc, od, .func fd, osl⟩) : PySem.W.keepIn K (.ref f) = true := by
  unfold PySem.W.keepIn
  dsimp only
  rw [e]
theorem fn_fun {K : Fg} {d : Dq} (e : fnW K d.ad = d.val) (c : fnB K d.ad d.qual [] .none .none = true) : ∃ fd, Fun K d.name d.qual d.st d.ad fd := by
  obtain ⟨oc, od, osl, doc, pm, an, cdv, ct, h1, h2⟩ := fn_get e c
  exact ⟨_, fun_mk h1 h2 (keep_fn h1)⟩
abbrev Tab : Type := Addr × List Str
abbrev Al : Type := Bool × List FnW × List (Option (List (Option (Str × Int))))
def obsK (chk : Fg → Bool) (fns : List Dq) (tabs : List Tab) (K : Fg) : Al := (chk K, fns.map (fun d => fnW K d.ad), tabs.map fun t => He.dicW K t.1)
def valK (fns : List Dq) (tabs : List Tab) (w : World) : Al := (true, fns.map Dq.val, tabs.map fun t => some (He.keysIn w.params t.2))
def Says (chk : Fg → Bool) (fns : List Dq) (tabs : List Tab) (w : World) (K : Fg) : Prop := obsK chk fns tabs K = valK fns tabs w
theorem in_nil {h : Heap} : PySem.W.Frag.In [] h := fun _ _ e => nomatch (show (none : Option Obj) = some _ from e)
def hook (ads : List Addr) (chk : Fg → Bool) (fns : List Dq) (tabs : List Tab) : PySem.W.Hook where
  α := Al
  obs := fun s => frK s.heap.get? ads [] (obsK chk fns tabs)
  val := fun w => valK fns tabs w
  says := fun w h => ∃ K : Fg, K.In h ∧ Says chk fns tabs w K
  of := fun _ s e => by
    obtain ⟨K, h1, h2⟩ := frK_ex (h := s.heap) (k := obsK chk fns tabs) ads [] in_nil
    exact ⟨K, h1, h2.symm.trans e⟩
  keeps := fun _ _ _ ⟨K, hK, c⟩ k => ⟨K, PySem.W.Frag.In.keeps hK k, c⟩
def ob (ads : List Addr) (chk : Fg → Bool) (fns : List Dq) (tabs : List Tab) (s : PySem.W.SharedT) : Al := frK (HandSHeadRun.getT s) ads [] (obsK chk fns tabs)
theorem ob_eq (ads : List Addr) (chk : Fg → Bool) (fns : List Dq) (tabs : List Tab) (s : PySem.W.SharedT) : ob ads chk fns tabs s = (hook ads chk fns tabs).obs s.abs := by
  have e : HandSHeadRun.getT s = s.abs.heap.get? := funext fun a => HandSHeadRun.getT_eq s a
  show _ = frK s.abs.heap.get? ads [] (obsK chk fns tabs)
  rw [← e]
  rfl
section
variable {K : Fg} {h : Heap} {mg : Str → Option Value} {C f p : Addr}
def eqO (a b : Option (Option Value)) : Bool := decide (a = b)
def gloB (K : Fg) (x : Str) (a : Addr) : Bool := eqO (PySem.W.nsIn K mainGlobals x) (some (some (.ref a)))
def freeB (K : Fg) (x : Str) : Bool := eqO (PySem.W.nsIn K mainGlobals x) (some none)
def conB (K : Fg) (x : Str) (v : V) : Bool := match PySem.W.nsIn K mainGlobals x with
  | some (some u) => He.relB v u
  | _ => false
def clsB (K : Fg) (C : Addr) : Bool := PySem.W.plainGet K C Str.empty && (PySem.W.hasDictIn K C && (PySem.W.plainOver K C && eqO (PySem.W.findIn K (.ref C) "__setattr__") (some (some (.builtin "object.__setattr__")))))
def noaB (K : Fg) (C : Addr) (x : Str) : Bool := eqO (PySem.W.findIn K (.ref C) x) (some none)
def metB (K : Fg) (C : Addr) (m : Str) (f : Addr) : Bool := eqO (PySem.W.findIn K (.ref C) m) (some (some (.ref f))) && (PySem.W.isFn K (.ref f) && PySem.W.keepIn K (.ref f))
def mkB (K : Fg) (C f : Addr) : Bool := PySem.W.makesIn K C && (eqO (PySem.W.findIn K (.ref C) "__init__") (some (some (.ref f))) && (PySem.W.isFn K (.ref f) && PySem.W.keepIn K (.ref C)))
def excB (K : Fg) (C : Addr) : Bool := eqO (PySem.W.findIn K (.ref C) "__getattribute__") (some (some (.builtin "BaseException.__getattribute__"))) && (eqO (PySem.W.findIn K (.ref C) "__getattr__") (some none) && (decide (PySem.W.subIn K (.ref C) (.type "BaseException") = some true) && (PySem.W.hasDictIn K C &&
  (eqO (PySem.W.findIn K (.ref C) "__class__") (some (some (.builtin "object.__class__"))) && (eqO (PySem.W.specialIn K (.builtin "object.__class__") "__get__") (some (some (.builtin "getset_descriptor.__get__"))) && (decide (PySem.W.takesIn K (.builtin "object.__class__") = some true) && decide (PySem.W.mroIn K C (.type "object") = some true)))))))
def exmB (K : Fg) (C D : Addr) (b : Bool) : Bool := decide (PySem.W.exmOne K (.ref C) (.ref D) = some b)
def kitB (K : Fg) (t c : Value) (b : Bool) : Bool := decide (PySem.W.kitOne K t c = some b)
def codB (K : Fg) (f cda : Addr) : Bool := match K.lookup f with
  | some ⟨_, _, .func fd, _⟩ => decide (fd.code = .ref cda)
  | _ => false
def exoB (K : Fg) (C : Addr) (newId : String) (bm : List Value) : Bool := match K.lookup C with
  | some ⟨.type t, _, .cls cd, sl⟩ => decide (t = "type") && (match cd.mro, sl.toList with
    | .ref C' :: bm', [_, _, _, _, some (.builtin n), _] => decide (C' = C) && (decide (n = newId) && (!cd.hasDel && (cd.hasDict && refsT bm bm')))
    | _, _ => false)
  | _ => false
def fileB (P : Program) (vs : Array Value) : Bool := match (vs[2]? : Option Value) with
  | some (.str f _) => (P.main.file : Str) == f
  | _ => false
def filB (P : Program) (K : Fg) (cda : Addr) : Bool := match K.lookup cda with
  | some ⟨_, _, .fields vs, _⟩ => fileB P vs
  | _ => false
def celB (K : Fg) (cc C : Addr) : Bool := match K.lookup cc with
  | some ⟨_, _, .cell (some (.ref D)), _⟩ => decide (D = C)
  | _ => false
def supB (P : Program) (b : Bs) (K : Fg) (C fI cda cc : Addr) (fld : Str) : Bool :=
  exoB K C b.newId b.bm && (eqO (PySem.W.findIn K (.ref C) "__setattr__") (some (some (.builtin "object.__setattr__"))) && (eqO (PySem.W.findIn K (.ref C) "__getattribute__") (some (some (.builtin "BaseException.__getattribute__"))) &&
  (eqO (PySem.W.findIn K (.ref C) "__getattr__") (some none) && (eqO (PySem.W.findIn K (.ref C) fld) (some none) && (eqO (PySem.W.findIn K (.ref C) "__init__") (some (some (.ref fI))) && (decide (PySem.W.typeIn K (.ref fI) = some (.type "function")) &&
  (PySem.W.keepIn K (.ref C) && (decide (PySem.W.subIn K (.ref C) (.type "BaseException") = some true) && (decide (PySem.W.subIn K (.ref C) (.type b.B) = some true) && (decide (PySem.W.mroIn K C (.ref C) = some true) && (decide (PySem.W.typeIn K (.ref C) = some (.type "type")) &&
  (PySem.W.hasDictIn K C && (decide (PySem.W.exmOne K (.ref C) (.ref C) = some true) && (eqO (PySem.W.nsIn K cStatics "thirdparty.any") (some none) && (eqO (PySem.W.ks_superIn K C C "__init__") (some (some (.builtin b.initId))) && (decide ((P.main.scope.names.lookup ("super" : Str)).isSome = false) &&
  (filB P K cda && celB K cc C)))))))))))))))))
def cdB (K : Fg) (C : Addr) : Bool := (PySem.W.clsIn K C).isSome
def supOB (P : Program) (K : Fg) (C f2 cda cc : Addr) : Bool :=
  cdB K C && (decide (PySem.W.mroIn K C (.ref C) = some true) && (eqO (PySem.W.nsIn K cStatics "thirdparty.any") (some none) && (eqO (PySem.W.ks_superIn K C C "__init__") (some (some (.ref f2))) && (decide (PySem.W.typeIn K (.ref f2) = some (.type "function")) &&
  (PySem.W.fnIn K f2 && (decide ((P.main.scope.names.lookup ("super" : Str)).isSome = false) && (filB P K cda && celB K cc C)))))))
def dfnB (K : Fg) (dV : Value) (n : Nat) : Bool := match n, dV with
  | 0, .none => true
  | n + 1, .ref T => (match K.lookup T with
    | some ⟨_, _, .seq its _, _⟩ => decide (its.size = n + 1)
    | _ => false)
  | _, _ => false
def fnBd (K : Fg) (a : Addr) (qual : Str) (clo : List (Str × Addr)) (cda : Addr) (nd : Nat) : Bool := match K.lookup a with
  | some ⟨_, _, .func fd, _⟩ => decide (fd.closure = clo) && (decide (fd.code = .ref cda) && (PySem.W.codeIn K fd.code qual && dfnB K fd.defaults nd))
  | _ => false
def gdL : List DictEntry → List (Str × V) → Bool
  | [], [] => true
  | e :: r, (k, v) :: q => (match e.key with
    | .str x _ => decide (x = k)
    | _ => false) && (He.relB v e.val && gdL r q)
  | _, _ => false
def gdB (K : Fg) (a : Addr) (kvs : List (Str × V)) : Bool := match K.lookup a with
  | some ⟨_, _, .dict es _, _⟩ => gdL es.toList kvs
  | _ => false
def dftB (K : Fg) (a T2 : Addr) : Bool := match K.lookup a with
  | some ⟨_, _, .func fd, _⟩ => (match fd.defaults with
    | .ref T => (match K.lookup T with
      | some ⟨_, _, .seq its _, _⟩ => decide (its = #[.ref T2])
      | _ => false)
    | _ => false) && (match K.lookup T2 with
    | some ⟨c, _, .seq its _, _⟩ => decide (c = .type "tuple") && decide (its = #[])
    | _ => false)
  | _ => false
end
end HK
end Eb

namespace K15
open PySem PySem.Spec PyProof.Rows L2 Eb
def topS (i : Nat) : Stmt := PySem.Challenge.pw_everybase_k15_sheets.main.body.getD i (.Pass ⟨0, 0, 0, 0⟩)
abbrev s_is_integer : Stmt := topS 14
abbrev s_is_number : Stmt := topS 15
abbrev s_is_name : Stmt := topS 17
abbrev s_are_given : Stmt := topS 43
abbrev s_is_deed : Stmt := topS 44
abbrev s_rows_of : Stmt := topS 45
abbrev s_flat_rows : Stmt := topS 46
abbrev s_lines_of : Stmt := topS 47
abbrev s_Row_init : Stmt := inClass (topS 48) 0
abbrev s_Row_eq : Stmt := inClass (topS 48) 1
abbrev s_Row_str : Stmt := inClass (topS 48) 2
abbrev s_put_line : Stmt := topS 49
abbrev s_Put_init : Stmt := inClass (topS 50) 0
abbrev s_Stop_init : Stmt := inClass (topS 51) 0
abbrev s_If_init : Stmt := inClass (topS 52) 0
abbrev s_Times_init : Stmt := inClass (topS 53) 0
abbrev s_Test_init : Stmt := inClass (topS 54) 0
abbrev s_Test_str : Stmt := inClass (topS 54) 2
abbrev s_Ask_init : Stmt := inClass (topS 55) 0
abbrev s_Not_init : Stmt := inClass (topS 56) 0
abbrev s_Program_init : Stmt := inClass (topS 81) 0
abbrev s_Program_str : Stmt := inClass (topS 81) 11
abbrev s_Sheet_init : Stmt := inClass (topS 82) 0
abbrev s_Sheet_need_place : Stmt := inClass (topS 82) 1
abbrev s_Sheet_drop : Stmt := inClass (topS 82) 2
abbrev s_Sheet_made : Stmt := inClass (topS 82) 3
abbrev s_Sheet_getitem : Stmt := inClass (topS 82) 6
abbrev s_Sheet_setitem : Stmt := inClass (topS 82) 7
abbrev s_Sheet_iadd : Stmt := inClass (topS 82) 8
abbrev s_Sheet_len : Stmt := inClass (topS 82) 10
abbrev s_need_one : Stmt := topS 83
abbrev s__law_deal : Stmt := topS 85
abbrev s__law_draw : Stmt := topS 86
abbrev s__law_pick : Stmt := topS 87
abbrev s__law_words : Stmt := topS 88
abbrev s__law_kinds : Stmt := topS 89
abbrev s__law_put : Stmt := topS 90
abbrev s__law_ask : Stmt := topS 91
abbrev s__law_count : Stmt := topS 92
abbrev s__law_rows : Stmt := topS 93
abbrev s__law_ask_text : Stmt := topS 94
abbrev s__law_lines : Stmt := topS 95
abbrev s__law_all_lines : Stmt := topS 96
abbrev s__law_ask_of : Stmt := topS 97
abbrev s__law_row_of : Stmt := topS 98
abbrev s__law_deed : Stmt := topS 99
abbrev s__law_begun : Stmt := topS 100
abbrev s__law_alike : Stmt := topS 101
abbrev s_law : Stmt := topS 102
abbrev s_InvalidRow_init : Stmt := inClass (topS 6) 0
abbrev s_NoRow_init : Stmt := inClass (topS 9) 0
end K15

namespace K15
open PySem PySem.Spec PyProof.Rows L2 Eb
def fc0 (K : PySem.W.Frag) : List Bool := [HK.fnB K 171 "is_integer" [] .none .none,
  HK.gloB K "is_integer" 171,
  HK.fnB K 178 "is_number" [] .none .none,
  HK.gloB K "is_number" 178,
  HK.fnB K 190 "is_name" [] .none .none,
  HK.gloB K "is_name" 190,
  HK.fnB K 329 "are_given" [] .none .none,
  HK.gloB K "are_given" 329,
  HK.fnB K 336 "is_deed" [] .none .none,
  HK.gloB K "is_deed" 336,
  HK.fnB K 341 "rows_of" [] .none .none,
  HK.gloB K "rows_of" 341,
  HK.fnB K 348 "flat_rows" [] .none .none,
  HK.gloB K "flat_rows" 348,
  HK.fnB K 355 "lines_of" [] .none .none,
  HK.gloB K "lines_of" 355,
  HK.fnB K 369 "Row.__init__" [] .none .none,
  HK.fnB K 376 "Row.__eq__" [] .none .none,
  HK.fnB K 383 "Row.__str__" [] .none .none,
  HK.fnB K 395 "put_line" [] .none .none,
  HK.gloB K "put_line" 395,
  HK.freeB K "super",
  HK.fnBd K 409 "Put.__init__" [("__class__", 399)] 408 0,
  HK.supOB PySem.Challenge.pw_everybase_k15_sheets K 412 369 408 399,
  HK.fnBd K 430 "Stop.__init__" [("__class__", 418)] 429 0,
  HK.supOB PySem.Challenge.pw_everybase_k15_sheets K 433 369 429 418,
  HK.fnBd K 453 "If.__init__" [("__class__", 439)] 452 1,
  HK.supOB PySem.Challenge.pw_everybase_k15_sheets K 456 369 452 439,
  HK.fnBd K 474 "Times.__init__" [("__class__", 462)] 473 0,
  HK.supOB PySem.Challenge.pw_everybase_k15_sheets K 477 369 473 462,
  HK.fnB K 493 "Test.__init__" [] .none .none,
  HK.fnB K 507 "Test.__str__" [] .none .none,
  HK.fnBd K 528 "Ask.__init__" [("__class__", 518)] 527 0,
  HK.supOB PySem.Challenge.pw_everybase_k15_sheets K 531 493 527 518,
  HK.fnBd K 549 "Not.__init__" [("__class__", 537)] 548 0,
  HK.supOB PySem.Challenge.pw_everybase_k15_sheets K 552 493 548 537,
  HK.fnBd K 746 "Program.__init__" [] 745 1,
  HK.dftB K 746 740,
  HK.fnB K 826 "Program.__str__" [] .none .none,
  HK.fnBd K 849 "Sheet.__init__" [] 848 1]
def fc1 (K : PySem.W.Frag) : List Bool := [HK.dftB K 849 841,
  HK.fnB K 856 "Sheet.need_place" [] .none .none,
  HK.fnB K 863 "Sheet.drop" [] .none .none,
  HK.fnB K 870 "Sheet.made" [] .none .none,
  HK.fnB K 891 "Sheet.__getitem__" [] .none .none,
  HK.fnB K 898 "Sheet.__setitem__" [] .none .none,
  HK.fnB K 905 "Sheet.__iadd__" [] .none .none,
  HK.fnB K 919 "Sheet.__len__" [] .none .none,
  HK.fnB K 933 "need_one" [] .none .none,
  HK.gloB K "need_one" 933,
  HK.fnB K 938 "_law_deal" [] .none .none,
  HK.gloB K "_law_deal" 938,
  HK.fnB K 945 "_law_draw" [] .none .none,
  HK.gloB K "_law_draw" 945,
  HK.fnB K 952 "_law_pick" [] .none .none,
  HK.gloB K "_law_pick" 952,
  HK.fnB K 957 "_law_words" [] .none .none,
  HK.gloB K "_law_words" 957,
  HK.fnB K 964 "_law_kinds" [] .none .none,
  HK.gloB K "_law_kinds" 964,
  HK.fnB K 969 "_law_put" [] .none .none,
  HK.gloB K "_law_put" 969,
  HK.fnB K 974 "_law_ask" [] .none .none,
  HK.gloB K "_law_ask" 974,
  HK.fnB K 979 "_law_count" [] .none .none,
  HK.gloB K "_law_count" 979,
  HK.fnB K 984 "_law_rows" [] .none .none,
  HK.gloB K "_law_rows" 984,
  HK.fnB K 991 "_law_ask_text" [] .none .none,
  HK.gloB K "_law_ask_text" 991,
  HK.fnB K 996 "_law_lines" [] .none .none,
  HK.gloB K "_law_lines" 996,
  HK.fnB K 1003 "_law_all_lines" [] .none .none,
  HK.gloB K "_law_all_lines" 1003,
  HK.fnB K 1010 "_law_ask_of" [] .none .none,
  HK.gloB K "_law_ask_of" 1010,
  HK.fnB K 1015 "_law_row_of" [] .none .none,
  HK.gloB K "_law_row_of" 1015,
  HK.fnB K 1022 "_law_deed" [] .none .none,
  HK.gloB K "_law_deed" 1022]
def fc2 (K : PySem.W.Frag) : List Bool := [HK.fnB K 1029 "_law_begun" [] .none .none,
  HK.gloB K "_law_begun" 1029,
  HK.fnB K 1034 "_law_alike" [] .none .none,
  HK.gloB K "_law_alike" 1034,
  HK.fnB K 1039 "law" [] .none .none,
  HK.freeB K "isinstance",
  HK.freeB K "int",
  HK.freeB K "bool",
  HK.freeB K "str",
  HK.freeB K "len",
  HK.freeB K "all",
  HK.freeB K "range",
  HK.freeB K "tuple",
  HK.freeB K "list",
  HK.freeB K "enumerate",
  HK.freeB K "sorted",
  HK.freeB K "sum",
  HK.freeB K "zip",
  HK.freeB K "abs",
  HK.conB K "NAME_SIGNS" (.str "abcdefghijklmnopqrstuvwxyz"),
  HK.conB K "MOST_SIGNS" (.int 4),
  HK.gloB K "SIGNS" 322,
  HK.gdB K 322 [("+", .str "xy"), ("-", .str "xy"), ("*", .str "xy"), ("//", .str "xy"), ("**", .str "xk")],
  HK.gloB K "PLAIN" 323,
  HK.gdB K 323 [("number", .str "k"), ("base", .str ""), ("let", .str "x"), ("turned", .str "x"), ("least", .str "x"), ("greatest", .str "x"), ("sum", .str "x"), ("many", .str "x"), ("root", .str "x"), ("figure", .str "kx"), ("first", .str "kx"), ("last", .str "kx"), ("joined", .str "xy"), ("common", .str "xy"), ("lesser", .str "xy"), ("rest", .str "xy")],
  HK.gloB K "ASKED" 324,
  HK.gdB K 324 [("same", .int 2), ("less", .int 2), ("divides", .int 2), ("mirrored", .int 1), ("unlike", .int 1)],
  HK.gloB K "Row" 386,
  HK.kitB K (.type "NoneType") (.ref 386) false,
  HK.kitB K (.type "int") (.ref 386) false,
  HK.kitB K (.type "bool") (.ref 386) false,
  HK.kitB K (.type "str") (.ref 386) false,
  HK.kitB K (.type "list") (.ref 386) false,
  HK.kitB K (.type "tuple") (.ref 386) false,
  HK.gloB K "Put" 412,
  HK.clsB K 412,
  HK.mkB K 412 409,
  HK.metB K 412 "__eq__" 376,
  HK.metB K 412 "__str__" 383,
  PySem.W.notFirst K 412 (.ref 412)]
def fc3 (K : PySem.W.Frag) : List Bool := [PySem.W.notFirst K 412 (.ref 433),
  PySem.W.notFirst K 412 (.ref 456),
  PySem.W.notFirst K 412 (.ref 477),
  PySem.W.notFirst K 412 (.ref 531),
  PySem.W.notFirst K 412 (.ref 552),
  PySem.W.notFirst K 412 (.type "NoneType"),
  PySem.W.notFirst K 412 (.type "bool"),
  PySem.W.notFirst K 412 (.type "int"),
  PySem.W.notFirst K 412 (.type "str"),
  PySem.W.notFirst K 412 (.type "list"),
  PySem.W.notFirst K 412 (.type "tuple"),
  HK.eqO (PySem.W.findIn K (.ref 412) "__format__") (some (some (.builtin "object.__format__"))),
  HK.eqO (PySem.W.findIn K (.ref 412) "__class__") (some (some (.builtin "object.__class__"))),
  HK.eqO (PySem.W.specialIn K (.builtin "object.__class__") "__get__") (some (some (.builtin "getset_descriptor.__get__"))),
  decide (PySem.W.takesIn K (.builtin "object.__class__") = some true),
  decide (PySem.W.mroIn K 412 (.type "object") = some true),
  HK.kitB K (.ref 412) (.type "int") false,
  HK.kitB K (.ref 412) (.type "bool") false,
  HK.kitB K (.ref 412) (.type "str") false,
  HK.kitB K (.ref 412) (.type "list") false,
  HK.kitB K (.ref 412) (.type "tuple") false,
  HK.kitB K (.ref 412) (.ref 386) true,
  HK.kitB K (.ref 412) (.ref 510) false,
  HK.noaB K 412 "lines",
  HK.noaB K 412 "inner",
  HK.noaB K 412 "used",
  HK.noaB K 412 "name",
  HK.noaB K 412 "deed",
  HK.noaB K 412 "given",
  HK.gloB K "Stop" 433,
  HK.clsB K 433,
  HK.mkB K 433 430,
  HK.metB K 433 "__eq__" 376,
  HK.metB K 433 "__str__" 383,
  PySem.W.notFirst K 433 (.ref 412),
  PySem.W.notFirst K 433 (.ref 433),
  PySem.W.notFirst K 433 (.ref 456),
  PySem.W.notFirst K 433 (.ref 477),
  PySem.W.notFirst K 433 (.ref 531),
  PySem.W.notFirst K 433 (.ref 552)]
def fc4 (K : PySem.W.Frag) : List Bool := [PySem.W.notFirst K 433 (.type "NoneType"),
  PySem.W.notFirst K 433 (.type "bool"),
  PySem.W.notFirst K 433 (.type "int"),
  PySem.W.notFirst K 433 (.type "str"),
  PySem.W.notFirst K 433 (.type "list"),
  PySem.W.notFirst K 433 (.type "tuple"),
  HK.eqO (PySem.W.findIn K (.ref 433) "__format__") (some (some (.builtin "object.__format__"))),
  HK.eqO (PySem.W.findIn K (.ref 433) "__class__") (some (some (.builtin "object.__class__"))),
  decide (PySem.W.mroIn K 433 (.type "object") = some true),
  HK.kitB K (.ref 433) (.type "int") false,
  HK.kitB K (.ref 433) (.type "bool") false,
  HK.kitB K (.ref 433) (.type "str") false,
  HK.kitB K (.ref 433) (.type "list") false,
  HK.kitB K (.ref 433) (.type "tuple") false,
  HK.kitB K (.ref 433) (.ref 386) true,
  HK.kitB K (.ref 433) (.ref 510) false,
  HK.noaB K 433 "lines",
  HK.noaB K 433 "inner",
  HK.noaB K 433 "used",
  HK.gloB K "If" 456,
  HK.clsB K 456,
  HK.mkB K 456 453,
  HK.metB K 456 "__eq__" 376,
  HK.metB K 456 "__str__" 383,
  PySem.W.notFirst K 456 (.ref 412),
  PySem.W.notFirst K 456 (.ref 433),
  PySem.W.notFirst K 456 (.ref 456),
  PySem.W.notFirst K 456 (.ref 477),
  PySem.W.notFirst K 456 (.ref 531),
  PySem.W.notFirst K 456 (.ref 552),
  PySem.W.notFirst K 456 (.type "NoneType"),
  PySem.W.notFirst K 456 (.type "bool"),
  PySem.W.notFirst K 456 (.type "int"),
  PySem.W.notFirst K 456 (.type "str"),
  PySem.W.notFirst K 456 (.type "list"),
  PySem.W.notFirst K 456 (.type "tuple"),
  HK.eqO (PySem.W.findIn K (.ref 456) "__format__") (some (some (.builtin "object.__format__"))),
  HK.eqO (PySem.W.findIn K (.ref 456) "__class__") (some (some (.builtin "object.__class__"))),
  decide (PySem.W.mroIn K 456 (.type "object") = some true),
  HK.kitB K (.ref 456) (.type "int") false]
def fc5 (K : PySem.W.Frag) : List Bool := [HK.kitB K (.ref 456) (.type "bool") false,
  HK.kitB K (.ref 456) (.type "str") false,
  HK.kitB K (.ref 456) (.type "list") false,
  HK.kitB K (.ref 456) (.type "tuple") false,
  HK.kitB K (.ref 456) (.ref 386) true,
  HK.kitB K (.ref 456) (.ref 510) false,
  HK.noaB K 456 "test",
  HK.noaB K 456 "rows",
  HK.noaB K 456 "others",
  HK.noaB K 456 "lines",
  HK.noaB K 456 "inner",
  HK.noaB K 456 "used",
  HK.gloB K "Times" 477,
  HK.clsB K 477,
  HK.mkB K 477 474,
  HK.metB K 477 "__eq__" 376,
  HK.metB K 477 "__str__" 383,
  PySem.W.notFirst K 477 (.ref 412),
  PySem.W.notFirst K 477 (.ref 433),
  PySem.W.notFirst K 477 (.ref 456),
  PySem.W.notFirst K 477 (.ref 477),
  PySem.W.notFirst K 477 (.ref 531),
  PySem.W.notFirst K 477 (.ref 552),
  PySem.W.notFirst K 477 (.type "NoneType"),
  PySem.W.notFirst K 477 (.type "bool"),
  PySem.W.notFirst K 477 (.type "int"),
  PySem.W.notFirst K 477 (.type "str"),
  PySem.W.notFirst K 477 (.type "list"),
  PySem.W.notFirst K 477 (.type "tuple"),
  HK.eqO (PySem.W.findIn K (.ref 477) "__format__") (some (some (.builtin "object.__format__"))),
  HK.eqO (PySem.W.findIn K (.ref 477) "__class__") (some (some (.builtin "object.__class__"))),
  decide (PySem.W.mroIn K 477 (.type "object") = some true),
  HK.kitB K (.ref 477) (.type "int") false,
  HK.kitB K (.ref 477) (.type "bool") false,
  HK.kitB K (.ref 477) (.type "str") false,
  HK.kitB K (.ref 477) (.type "list") false,
  HK.kitB K (.ref 477) (.type "tuple") false,
  HK.kitB K (.ref 477) (.ref 386) true,
  HK.kitB K (.ref 477) (.ref 510) false,
  HK.noaB K 477 "count"]
def fc6 (K : PySem.W.Frag) : List Bool := [HK.noaB K 477 "rows",
  HK.noaB K 477 "lines",
  HK.noaB K 477 "inner",
  HK.noaB K 477 "used",
  HK.gloB K "Test" 510,
  HK.kitB K (.type "NoneType") (.ref 510) false,
  HK.kitB K (.type "int") (.ref 510) false,
  HK.kitB K (.type "bool") (.ref 510) false,
  HK.kitB K (.type "str") (.ref 510) false,
  HK.kitB K (.type "list") (.ref 510) false,
  HK.kitB K (.type "tuple") (.ref 510) false,
  HK.gloB K "Ask" 531,
  HK.clsB K 531,
  HK.mkB K 531 528,
  HK.metB K 531 "__str__" 507,
  HK.eqO (PySem.W.findIn K (.ref 531) "__format__") (some (some (.builtin "object.__format__"))),
  HK.eqO (PySem.W.findIn K (.ref 531) "__class__") (some (some (.builtin "object.__class__"))),
  decide (PySem.W.mroIn K 531 (.type "object") = some true),
  HK.kitB K (.ref 531) (.type "int") false,
  HK.kitB K (.ref 531) (.type "bool") false,
  HK.kitB K (.ref 531) (.type "str") false,
  HK.kitB K (.ref 531) (.type "list") false,
  HK.kitB K (.ref 531) (.type "tuple") false,
  HK.kitB K (.ref 531) (.ref 386) false,
  HK.kitB K (.ref 531) (.ref 510) true,
  HK.noaB K 531 "text",
  HK.noaB K 531 "used",
  HK.noaB K 531 "word",
  HK.noaB K 531 "names",
  HK.gloB K "Not" 552,
  HK.clsB K 552,
  HK.mkB K 552 549,
  HK.metB K 552 "__str__" 507,
  HK.eqO (PySem.W.findIn K (.ref 552) "__format__") (some (some (.builtin "object.__format__"))),
  HK.eqO (PySem.W.findIn K (.ref 552) "__class__") (some (some (.builtin "object.__class__"))),
  decide (PySem.W.mroIn K 552 (.type "object") = some true),
  HK.kitB K (.ref 552) (.type "int") false,
  HK.kitB K (.ref 552) (.type "bool") false,
  HK.kitB K (.ref 552) (.type "str") false,
  HK.kitB K (.ref 552) (.type "list") false]
def fc7 (K : PySem.W.Frag) : List Bool := [HK.kitB K (.ref 552) (.type "tuple") false,
  HK.kitB K (.ref 552) (.ref 386) false,
  HK.kitB K (.ref 552) (.ref 510) true,
  HK.noaB K 552 "text",
  HK.noaB K 552 "used",
  HK.noaB K 552 "test",
  HK.gloB K "Program" 829,
  HK.clsB K 829,
  HK.mkB K 829 746,
  HK.eqO (PySem.W.findIn K (.ref 829) "__class__") (some (some (.builtin "object.__class__"))),
  decide (PySem.W.mroIn K 829 (.type "object") = some true),
  HK.kitB K (.ref 829) (.type "int") false,
  HK.kitB K (.ref 829) (.type "bool") false,
  HK.kitB K (.ref 829) (.type "str") false,
  HK.kitB K (.ref 829) (.type "list") false,
  HK.kitB K (.ref 829) (.type "tuple") false,
  HK.kitB K (.ref 829) (.ref 386) false,
  HK.kitB K (.ref 829) (.ref 510) false,
  HK.noaB K 829 "rows",
  HK.noaB K 829 "flat",
  HK.noaB K 829 "lines",
  HK.noaB K 829 "names",
  HK.metB K 829 "__str__" 826,
  HK.gloB K "Sheet" 922,
  HK.clsB K 922,
  HK.mkB K 922 849,
  PySem.W.selfFirst K 922,
  decide (PySem.W.subIn K (.ref 922) (.type "collections.deque") = some false),
  HK.eqO (PySem.W.findIn K (.ref 922) "__class__") (some (some (.builtin "object.__class__"))),
  decide (PySem.W.mroIn K 922 (.type "object") = some true),
  HK.kitB K (.ref 922) (.type "int") false,
  HK.kitB K (.ref 922) (.type "bool") false,
  HK.kitB K (.ref 922) (.type "str") false,
  HK.kitB K (.ref 922) (.type "list") false,
  HK.kitB K (.ref 922) (.type "tuple") false,
  HK.kitB K (.ref 922) (.ref 386) false,
  HK.kitB K (.ref 922) (.ref 510) false,
  HK.noaB K 922 "rows",
  HK.metB K 922 "need_place" 856,
  HK.metB K 922 "drop" 863]
def fc8 (K : PySem.W.Frag) : List Bool := [HK.metB K 922 "made" 870,
  HK.metB K 922 "__getitem__" 891,
  HK.metB K 922 "__setitem__" 898,
  HK.metB K 922 "__iadd__" 905,
  HK.metB K 922 "__len__" 919,
  HK.gloB K "NoRow" 161,
  HK.gloB K "InvalidRow" 98,
  HK.fnB K 158 "NoRow.__init__" [("__class__", 146)] .none .none,
  HK.codB K 158 157,
  HK.supB PySem.Challenge.pw_everybase_k15_sheets PySem.SupX.iE K 161 158 157 146 "at",
  HK.excB K 161,
  HK.exmB K 161 161 true,
  HK.exmB K 161 98 false,
  HK.fnB K 95 "InvalidRow.__init__" [("__class__", 83)] .none .none,
  HK.codB K 95 94,
  HK.supB PySem.Challenge.pw_everybase_k15_sheets PySem.SupX.vE K 98 95 94 83 "word",
  HK.excB K 98,
  HK.exmB K 98 161 false,
  HK.exmB K 98 98 true,
  HK.gloB K "law" 1039]
def chk (K : PySem.W.Frag) : Bool := (fc0 K).all id && ((fc1 K).all id && ((fc2 K).all id && ((fc3 K).all id && ((fc4 K).all id && ((fc5 K).all id && ((fc6 K).all id && ((fc7 K).all id && ((fc8 K).all id))))))))
def tabs : List HK.Tab := [(322, ["+", "-", "*", "//", "**"]), (323, ["number", "base", "let", "turned", "least", "greatest", "sum", "many", "root", "figure", "first", "last", "joined", "common", "lesser", "rest"]), (324, ["same", "less", "divides", "mirrored", "unlike"])]
def dqs : List HK.Dq := [⟨171, "is_integer", "is_integer", s_is_integer⟩,
  ⟨178, "is_number", "is_number", s_is_number⟩,
  ⟨190, "is_name", "is_name", s_is_name⟩,
  ⟨329, "are_given", "are_given", s_are_given⟩,
  ⟨336, "is_deed", "is_deed", s_is_deed⟩,
  ⟨341, "rows_of", "rows_of", s_rows_of⟩,
  ⟨348, "flat_rows", "flat_rows", s_flat_rows⟩,
  ⟨355, "lines_of", "lines_of", s_lines_of⟩,
  ⟨369, "__init__", "Row.__init__", s_Row_init⟩,
  ⟨376, "__eq__", "Row.__eq__", s_Row_eq⟩,
  ⟨383, "__str__", "Row.__str__", s_Row_str⟩,
  ⟨395, "put_line", "put_line", s_put_line⟩,
  ⟨409, "__init__", "Put.__init__", s_Put_init⟩,
  ⟨430, "__init__", "Stop.__init__", s_Stop_init⟩,
  ⟨453, "__init__", "If.__init__", s_If_init⟩,
  ⟨474, "__init__", "Times.__init__", s_Times_init⟩,
  ⟨493, "__init__", "Test.__init__", s_Test_init⟩,
  ⟨507, "__str__", "Test.__str__", s_Test_str⟩,
  ⟨528, "__init__", "Ask.__init__", s_Ask_init⟩,
  ⟨549, "__init__", "Not.__init__", s_Not_init⟩,
  ⟨746, "__init__", "Program.__init__", s_Program_init⟩,
  ⟨826, "__str__", "Program.__str__", s_Program_str⟩,
  ⟨849, "__init__", "Sheet.__init__", s_Sheet_init⟩,
  ⟨856, "need_place", "Sheet.need_place", s_Sheet_need_place⟩,
  ⟨863, "drop", "Sheet.drop", s_Sheet_drop⟩,
  ⟨870, "made", "Sheet.made", s_Sheet_made⟩,
  ⟨891, "__getitem__", "Sheet.__getitem__", s_Sheet_getitem⟩,
  ⟨898, "__setitem__", "Sheet.__setitem__", s_Sheet_setitem⟩,
  ⟨905, "__iadd__", "Sheet.__iadd__", s_Sheet_iadd⟩,
  ⟨919, "__len__", "Sheet.__len__", s_Sheet_len⟩,
  ⟨933, "need_one", "need_one", s_need_one⟩,
  ⟨938, "_law_deal", "_law_deal", s__law_deal⟩,
  ⟨945, "_law_draw", "_law_draw", s__law_draw⟩,
  ⟨952, "_law_pick", "_law_pick", s__law_pick⟩,
  ⟨957, "_law_words", "_law_words", s__law_words⟩,
  ⟨964, "_law_kinds", "_law_kinds", s__law_kinds⟩,
  ⟨969, "_law_put", "_law_put", s__law_put⟩,
  ⟨974, "_law_ask", "_law_ask", s__law_ask⟩,
  ⟨979, "_law_count", "_law_count", s__law_count⟩,
  ⟨984, "_law_rows", "_law_rows", s__law_rows⟩,
  ⟨991, "_law_ask_text", "_law_ask_text", s__law_ask_text⟩,
  ⟨996, "_law_lines", "_law_lines", s__law_lines⟩,
  ⟨1003, "_law_all_lines", "_law_all_lines", s__law_all_lines⟩,
  ⟨1010, "_law_ask_of", "_law_ask_of", s__law_ask_of⟩,
  ⟨1015, "_law_row_of", "_law_row_of", s__law_row_of⟩,
  ⟨1022, "_law_deed", "_law_deed", s__law_deed⟩,
  ⟨1029, "_law_begun", "_law_begun", s__law_begun⟩,
  ⟨1034, "_law_alike", "_law_alike", s__law_alike⟩,
  ⟨1039, "law", "law", s_law⟩,
  ⟨158, "__init__", "NoRow.__init__", s_NoRow_init⟩,
  ⟨95, "__init__", "InvalidRow.__init__", s_InvalidRow_init⟩]
def ads : List Nat := ([1, 2, 4, 5, 6, 7, 10, 11, 14, 15, 17, 18, 22, 24, 25, 28, 29, 35, 37, 38, 41, 42, 47, 49, 50, 53, 54, 59, 61, 62, 63, 66, 67, 68, 70, 71, 75, 80, 82, 83, 84, 87, 88, 89, 91, 92, 96, 101, 103, 104, 105, 108, 109, 110, 112, 113, 117, 122, 124, 125] : List Nat) ++ ([126, 129, 130, 131, 133, 134, 138, 143, 145, 146, 147, 150, 151, 152, 154, 155, 159, 165, 167, 168, 172, 174, 175, 179, 181, 182, 186, 191, 193, 194, 198, 200, 201, 205, 207, 208, 212, 214, 215, 219, 221, 222, 226, 228, 229, 233, 238, 240, 241, 245, 247, 248, 252, 254, 255, 259, 261, 262, 266, 268] : List Nat) ++ ([269, 273, 275, 276, 280, 282, 283, 287, 289, 290, 294, 296, 297, 301, 303, 304, 308, 310, 311, 315, 317, 318, 322, 323, 324, 325, 330, 332, 333, 337, 342, 344, 345, 349, 351, 352, 356, 358, 359, 362, 363, 365, 366, 370, 372, 373, 377, 379, 380, 384, 391, 396, 398, 399, 400, 403, 404, 405, 410, 415] : List Nat) ++ ([417, 418, 419, 422, 423, 424, 426, 427, 431, 436, 438, 439, 440, 443, 444, 445, 446, 447, 449, 450, 454, 459, 461, 462, 463, 466, 467, 468, 470, 471, 475, 480, 482, 483, 486, 487, 489, 490, 494, 496, 497, 501, 503, 504, 508, 515, 517, 518, 519, 522, 523, 524, 529, 534, 536, 537, 538, 541, 542, 543] : List Nat) ++ ([545, 546, 550, 555, 557, 558, 562, 563, 564, 566, 567, 571, 573, 574, 578, 580, 581, 584, 585, 590, 592, 593, 597, 599, 600, 604, 609, 614, 619, 626, 628, 629, 633, 638, 639, 644, 646, 647, 651, 656, 658, 659, 663, 665, 666, 670, 672, 673, 676, 677, 679, 680, 684, 686, 687, 691, 693, 694, 698, 700] : List Nat) ++ ([701, 705, 712, 714, 715, 719, 721, 722, 726, 728, 729, 733, 735, 736, 739, 740, 741, 742, 747, 749, 750, 754, 756, 757, 759, 760, 764, 766, 767, 771, 773, 774, 778, 780, 781, 785, 787, 788, 792, 794, 795, 799, 801, 802, 806, 808, 809, 813, 815, 816, 820, 822, 823, 827, 834, 836, 837, 840, 841, 842] : List Nat) ++ ([843, 845, 846, 850, 852, 853, 857, 859, 860, 864, 866, 867, 871, 873, 874, 878, 880, 881, 885, 887, 888, 892, 894, 895, 899, 901, 902, 906, 908, 909, 913, 915, 916, 920, 927, 929, 930, 934, 939, 941, 942, 946, 948, 949, 953, 958, 960, 961, 965, 970, 975, 980, 985, 987, 988, 992, 997, 999, 1000, 1004] : List Nat) ++ ([1006, 1007, 1011, 1016, 1018, 1019, 1023, 1025, 1026, 1030, 1035, 100, 1005, 1012, 1017, 102, 1024, 1031, 1036, 106, 107, 111, 115, 12, 120, 121, 123, 127, 128, 13, 132, 136, 141, 142, 144, 148, 149, 153, 16, 162, 163, 164, 166, 173, 180, 184, 187, 192, 196, 199, 20, 203, 206, 210, 213, 217, 220, 224, 227, 23] : List Nat) ++ ([231, 234, 236, 239, 243, 246, 250, 253, 257, 26, 260, 264, 267, 27, 271, 274, 278, 281, 285, 288, 292, 295, 299, 302, 306, 309, 313, 316, 32, 320, 326, 33, 331, 338, 34, 343, 350, 357, 36, 360, 361, 364, 371, 378, 387, 388, 389, 39, 390, 392, 397, 40, 401, 402, 406, 413, 414, 416, 420, 421] : List Nat) ++ ([425, 434, 435, 437, 441, 442, 448, 45, 457, 458, 46, 460, 464, 465, 469, 478, 479, 48, 481, 484, 485, 488, 495, 499, 502, 51, 511, 512, 513, 514, 516, 52, 520, 521, 525, 532, 533, 535, 539, 540, 544, 553, 554, 556, 560, 565, 569, 57, 572, 576, 579, 58, 582, 583, 586, 588, 591, 595, 598, 60] : List Nat) ++ ([602, 605, 607, 610, 612, 615, 617, 622, 623, 624, 625, 627, 631, 634, 636, 64, 640, 642, 645, 649, 65, 652, 654, 657, 661, 664, 668, 671, 674, 675, 678, 682, 685, 689, 69, 692, 696, 699, 703, 708, 709, 710, 711, 713, 717, 720, 724, 727, 73, 731, 734, 737, 738, 743, 748, 752, 755, 758, 762, 765] : List Nat) ++ ([769, 772, 776, 779, 78, 783, 786, 79, 790, 793, 797, 8, 800, 804, 807, 81, 811, 814, 818, 821, 830, 831, 832, 833, 835, 838, 839, 844, 85, 851, 858, 86, 865, 872, 876, 879, 883, 886, 893, 9, 90, 900, 907, 911, 914, 923, 924, 925, 926, 928, 935, 940, 947, 954, 959, 966, 971, 976, 981, 986] : List Nat) ++ ([99, 993, 998, 1001, 1008, 1013, 1020, 1027, 1032, 1037, 114, 116, 135, 137, 156, 169, 176, 183, 185, 188, 19, 195, 197, 202, 204, 209, 21, 211, 216, 218, 223, 225, 230, 232, 235, 237, 242, 244, 249, 251, 256, 258, 263, 265, 270, 272, 277, 279, 284, 286, 291, 293, 298, 300, 305, 307, 312, 314, 319, 321] : List Nat) ++ ([327, 334, 339, 346, 353, 367, 374, 381, 393, 407, 428, 451, 472, 491, 498, 500, 505, 526, 547, 559, 561, 568, 570, 575, 577, 587, 589, 594, 596, 601, 603, 606, 608, 611, 613, 616, 618, 630, 632, 635, 637, 641, 643, 648, 650, 653, 655, 660, 662, 667, 669, 681, 683, 688, 690, 695, 697, 702, 704, 716] : List Nat) ++ ([718, 72, 723, 725, 730, 732, 74, 744, 751, 753, 761, 763, 768, 770, 775, 777, 782, 784, 789, 791, 796, 798, 803, 805, 810, 812, 817, 819, 824, 847, 854, 861, 868, 875, 877, 882, 884, 889, 896, 903, 910, 912, 917, 93, 931, 936, 943, 950, 955, 962, 967, 972, 977, 982, 989, 994, 170, 171, 177, 178] : List Nat) ++ ([189, 190, 328, 329, 335, 336, 340, 341, 347, 348, 354, 355, 368, 369, 375, 376, 382, 383, 394, 395, 408, 409, 429, 430, 452, 453, 473, 474, 492, 493, 506, 507, 527, 528, 548, 549, 745, 746, 825, 826, 848, 849, 855, 856, 862, 863, 869, 870, 890, 891, 897, 898, 904, 905, 918, 919, 932, 933, 937, 938] : List Nat) ++ ([944, 945, 951, 952, 956, 957, 963, 964, 968, 969, 973, 974, 978, 979, 983, 984, 990, 991, 995, 996, 1002, 1003, 1009, 1010, 1014, 1015, 1021, 1022, 1028, 1029, 1033, 1034, 1038, 1039, 157, 158, 94, 95, 30, 43, 55, 76, 97, 118, 139, 160, 385, 411, 432, 455, 476, 509, 530, 551, 620, 706, 828, 921, 31, 44] : List Nat) ++ ([56, 77, 98, 119, 140, 161, 386, 412, 433, 456, 477, 510, 531, 552, 621, 707, 829, 922, 0, 3] : List Nat)
def loose : List PySem.Str := (["_wall", "FigureError", "InvalidBase", "InvalidNumber", "NoFigure", "InvalidRow", "InvalidText", "Stopped", "NoRow", "NAME_SIGNS", "MOST_SIGNS", "LEAST_BASE", "is_integer", "is_number", "is_base", "is_name", "need_base", "need_numbers", "power", "power_figures", "figures_of", "put_together", "number_of", "ascending", "turned", "least", "greatest", "total", "many", "root"] : List PySem.Str) ++ (["figure", "first", "last", "joined", "mirrored", "unlike", "SIGNS", "PLAIN", "ASKED", "are_given", "is_deed", "rows_of", "flat_rows", "lines_of", "Row", "put_line", "Put", "Stop", "If", "Times", "Test", "Ask", "Not", "common", "OF_ONE", "OF_PART", "power_going", "plain_result", "Going", "gone"] : List PySem.Str) ++ (["numbers_of", "DIGITS", "MOST_DIGITS", "number_in", "arg_in", "put_in", "test_in", "single_in", "Block", "head_in", "take_line", "rows_in", "Program", "Sheet", "need_one", "_law_deal", "_law_draw", "_law_pick", "_law_words", "_law_kinds", "_law_put", "_law_ask", "_law_count", "_law_rows", "_law_ask_text", "_law_lines", "_law_all_lines", "_law_ask_of", "_law_row_of", "_law_deed"] : List PySem.Str) ++ (["_law_begun", "_law_alike"] : List PySem.Str)
abbrev Ro : PySem.W.OpenRow := PySem.W.OpenLaw.row PySem.Challenge.rw_everybase_k15_sheets
abbrev qv : Program := PySem.W.view Ro.prog [102]
theorem runF (w : World) : HandSHeadRun.RunEq Ro qv (HK.hook ads chk dqs tabs) (HK.ob ads chk dqs tabs) 9043 loose (w.withFollow "special-get-raises" false) := by
  intro os
  kernel_rfl
theorem runT (w : World) : HandSHeadRun.RunEq Ro qv (HK.hook ads chk dqs tabs) (HK.ob ads chk dqs tabs) 9043 loose (w.withFollow "special-get-raises" true) := by
  intro os
  kernel_rfl
theorem run (w : World) : HandSHeadRun.RunEq Ro qv (HK.hook ads chk dqs tabs) (HK.ob ads chk dqs tabs) 9043 loose w := PySem.W.byRow2 "special-get-raises" (P := fun w => HandSHeadRun.RunEq Ro qv (HK.hook ads chk dqs tabs) (HK.ob ads chk dqs tabs) 9043 loose w) runF runT w
end K15

namespace Eb
open PySem PySem.Spec PyProof.Rows L2
theorem bb_int : bootBuiltins "int" = some (.type "int") := by decide +kernel
theorem bb_bool : bootBuiltins "bool" = some (.type "bool") := by decide +kernel
theorem bb_str : bootBuiltins "str" = some (.type "str") := by decide +kernel
theorem bb_list : bootBuiltins "list" = some (.type "list") := by decide +kernel
theorem bb_tuple : bootBuiltins "tuple" = some (.type "tuple") := by decide +kernel
theorem bb_len : bootBuiltins "len" = some (.builtin "len") := by decide +kernel
theorem bb_sum : bootBuiltins "sum" = some (.builtin "sum") := by decide +kernel
theorem bb_abs : bootBuiltins "abs" = some (.builtin "abs") := by decide +kernel
theorem bb_sorted : bootBuiltins "sorted" = some (.builtin "sorted") := by decide +kernel
theorem bb_all : bootBuiltins "all" = some (.builtin "all") := by decide +kernel
theorem bb_isinstance : bootBuiltins "isinstance" = some (.builtin "isinstance") := by decide +kernel

section
variable {X : Cx}
def rSumT (K : PySem.W.Frag) : List V → Hp → VK → Prop := fun vs H Q => ∃ (a : Addr) (ns : List Int), vs = [V.ref a] ∧ SqT K H a (ns.map V.int) ∧ Q (.int ns.sum) H
theorem cr_sumT (hc : X.calm = true) : CallR X (.builtin "sum") (rSumT X.K) := by
  intro pins s σ H vs us Q I r h
  obtain ⟨a, ns, rfl, hs, q⟩ := h
  obtain ⟨its, rv, ht, _⟩ := I.tuple hs
  rw [Vals.ref1 r]
  have hi := rv.ints
  obtain ⟨xs, e⟩ := hi.allInts.items
  have hn : numsOf (intItems xs).toList = ns := by
    rw [← e]
    exact hi.numsOf
  rw [nums_intItems] at hn
  have ht' : s.heap.IsTuple a (intItems xs) := by
    rw [← e]
    exact ht
  refine PySem.W.ktm_sumG (I.ok.hd hc) ht' fun h' tk t' hk => ?_
  rw [preSum_eq, List.take_of_length_le (by simp), hn]
  exact ⟨.int _, H, I.kept hk, ⟨_, rfl⟩, q⟩
end

theorem same_new {H : Hp} {p : Addr} {o : HO} (h : H p = none) : Same H (upd H p o) := fun b x e => by
  rw [upd_ne (ne_of_none e h)]
  exact e
theorem same_mut {H H' : Hp} {p : Addr} {o : HO} (e : Same H H') (h : H p = none) : Same H (upd H' p o) := fun b x hb => by
  rw [upd_ne (ne_of_none hb h)]
  exact e b x hb
theorem Same_seqT {K : PySem.W.Frag} {H H' : Hp} {a : Addr} {xs : List V} (e : Same H H') (h : SqT K H a xs) : SqT K H' a xs := by
  rcases h with (h | ⟨o, h⟩) | h
  · exact .inl (.inl (e _ _ h))
  · exact .inl (.inr ⟨o, e _ _ h⟩)
  · exact .inr h
def Grow (M : List Addr) (H H' : Hp) : Prop := ∀ b o, b ∉ M → H b = some o → H' b = some o
theorem Grow.refl (M : List Addr) (H : Hp) : Grow M H H := fun _ _ _ h => h
theorem Grow.trans {M : List Addr} {H H1 H2 : Hp} (a : Grow M H H1) (b : Grow M H1 H2) : Grow M H H2 := fun c o n h => b c o n (a c o n h)
theorem Grow.of {M : List Addr} {H H' : Hp} (e : Same H H') : Grow M H H' := fun c o _ h => e c o h
theorem Grow.new {M : List Addr} {H H' : Hp} {p : Addr} {o : HO} (g : Grow M H H') (h : H p = none) : Grow M H (upd H' p o) := fun b x n hb => by
  rw [upd_ne (ne_of_none hb h)]
  exact g b x n hb
theorem Grow.at {M : List Addr} {H H' : Hp} {p : Addr} {o : HO} (g : Grow M H H') (h : p ∈ M) : Grow M H (upd H' p o) := fun b x n hb => by
  rw [upd_ne (show b ≠ p from fun e => n (by rw [e]; exact h))]
  exact g b x n hb
theorem Grow.none {M : List Addr} {H H' : Hp} {p : Addr} (g : Grow M H H') (hM : ∀ b ∈ M, H' b ≠ none) (h : H' p = none) : H p = none := by
  cases q : H p with
  | none => rfl
  | some o =>
    by_cases hm : p ∈ M
    · exact absurd h (hM p hm)
    · rw [g p o hm q] at h
      cases h
theorem sqL_of {K : PySem.W.Frag} {H : Hp} {a : Addr} {xs : List V} (h : H a = some (.lst xs)) : SqL K H a xs := .inl (.inl h)
theorem sqT_of {K : PySem.W.Frag} {H : Hp} {a : Addr} {xs : List V} (h : H a = some (.tup xs)) : SqT K H a xs := .inl (.inl h)
theorem sqL_new {K : PySem.W.Frag} {H : Hp} {a : Addr} {xs : List V} : SqL K (upd H a (.lst xs)) a xs := .inl (.inl upd_same)
theorem sz {n : Nat} (h : n ≤ 100000) : n ≤ sizeLine := Nat.le_trans h (by decide)
theorem szr {n : Nat} (h : Nat.ble n 100000 = true) : n ≤ sizeLine := sz (Nat.le_of_ble_eq_true h)
theorem szl {n : Nat} (h : n < 100000) : n < sizeLine := Nat.lt_of_lt_of_le h (by decide)

theorem whl {c : TT} {tb : TS} {D : Ends} {σ : L2.St} {H : Hp} (W : Nat → L2.St → Hp → Prop) (m : Nat) (h0 : W m σ H)
    (hs : ∀ m σ H, W m σ H → c σ H fun b H1 => if b = true then ∃ N : L2.St → Hp → Prop, (∀ σ' H', N σ' H' → ∃ m', m' < m ∧ W m' σ' H') ∧ tb { D with nx := N, ct := N, bk := D.nx } σ H1 else D.nx σ H1) : tWhile c tb D σ H :=
  ⟨W, ⟨m, h0⟩, hs⟩
theorem turn_of {tb : TS} {D : Ends} {σ : L2.St} {H : Hp} {W : Nat → L2.St → Hp → Prop} {m : Nat}
    (h : tb { D with nx := fun σ' H' => ∃ m', m' < m ∧ W m' σ' H', ct := fun σ' H' => ∃ m', m' < m ∧ W m' σ' H', bk := D.nx } σ H) :
    ∃ N : L2.St → Hp → Prop, (∀ σ' H', N σ' H' → ∃ m', m' < m ∧ W m' σ' H') ∧ tb { D with nx := N, ct := N, bk := D.nx } σ H := ⟨_, fun _ _ z => z, h⟩

theorem by_ans {t : TT} {σ : L2.St} {H : Hp} {Q : Bool → Hp → Prop} (b : Bool) (h : ∀ Q' : Bool → Hp → Prop, (∀ H1, Same H H1 → Q' b H1) → t σ H Q') (k : ∀ H1, Same H H1 → Q b H1) : t σ H Q := h Q k
theorem Grow.same {M : List Addr} {H H1 H2 : Hp} (g : Grow M H H1) (e : Same H1 H2) : Grow M H H2 := g.trans (Grow.of e)

theorem lay_ints : ∀ xs : List Int, PyData.canLayAll0 (xs.map PyData.int) = true
  | [] => by simp [PyData.canLayAll0]
  | x :: r => by simp [PyData.canLayAll0, PyData.canLay0, lay_ints r]
theorem depth_ints : ∀ xs : List Int, PyData.depthAll (xs.map PyData.int) = 0
  | [] => by simp [PyData.depthAll]
  | x :: r => by simp [PyData.depthAll, PyData.depth, depth_ints r]
theorem shaped_list (xs : List Int) : SeqAt.shaped (.list (xs.map PyData.int)) = true := by
  unfold SeqAt.shaped
  simp [PyData.canLay0, PyData.depth, lay_ints, depth_ints]

def Sm (n : Int) : Prop := n.natAbs < 2 ^ 1900
theorem Sm.log {n : Int} (h : Sm n) : n.natAbs.log2 < 1900 := PySem.Flt.log2_lt_of (by decide) h
theorem Sm.le {n m : Int} (h : Sm m) (h0 : 0 ≤ n) (h1 : n ≤ m) : Sm n := Nat.lt_of_le_of_lt (by omega) h
theorem sm_of {n : Int} (h0 : 0 ≤ n) (h1 : n ≤ 10 ^ 61) : Sm n := Sm.le (m := 10 ^ 61) (by unfold Sm; decide +kernel) h0 h1
def CDivX (i j : Int) : Prop := 0 < j ∧ (i.natAbs.log2 < 13500 ∨ j.natAbs.log2 < 9000)
theorem divX_ok {i j : Int} (h : CDivX i j) : Builtin.divisionGoesByPylong i j = false := by
  rcases h.2 with h1 | h1
  · have ki : (if i == 0 then 0 else i.natAbs.log2 / 30 + 1) ≤ 450 := by
      split <;> omega
    show (decide ((if j == 0 then 0 else j.natAbs.log2 / 30 + 1) > 300) && decide ((if i == 0 then 0 else i.natAbs.log2 / 30 + 1) > (if j == 0 then 0 else j.natAbs.log2 / 30 + 1) + 150)) = false
    by_cases c : (if j == 0 then 0 else j.natAbs.log2 / 30 + 1) > 300
    · rw [decide_eq_false (show ¬ ((if i == 0 then 0 else i.natAbs.log2 / 30 + 1) > (if j == 0 then 0 else j.natAbs.log2 / 30 + 1) + 150) by omega), Bool.and_false]
    · rw [decide_eq_false c, Bool.false_and]
  · exact PyProof.noPylong_of_log2 h1
theorem op_fdivX {X : Cx} : OpR X (binaryOp .FloorDiv) (rI CDivX fun i j => .int (i / j)) := opI fun i j _ _ _ _ _ hc q =>
  floordiv_int (show j ≠ 0 by have := hc.1; omega) (by rw [Int.fdiv_eq_ediv_of_nonneg i (show 0 ≤ j by have := hc.1; omega)]; exact q) (.inl (divX_ok hc))
theorem divW {i j : Int} (h : 0 < j) (s : Sm j) : CDivX i j := ⟨h, .inr (Nat.lt_trans s.log (by decide))⟩
theorem mulW {i j : Int} (h : Sm i) (s : Sm j) : L2.CMulW i j := by
  have a := h.log
  have b := s.log
  unfold L2.CMulW
  omega

structure Deal (H : Hp) (d l : Addr) : Prop where
  ex : ∃ (xs : List Int) (n : Int × Int), H d = some (.lst [.ref l, .int n.1, .int n.2]) ∧ H l = some (.lst (xs.map V.int)) ∧ xs.length ≤ 63 ∧ 0 ≤ n.2 ∧ n.2 < 2147483647
theorem Deal.ne {H : Hp} {d l : Addr} (D : Deal H d l) : d ≠ l := by
  obtain ⟨xs, n, h1, h2, _⟩ := D.ex
  intro e
  subst e
  rw [h1] at h2
  have h3 := HO.lst.inj (Option.some.inj h2)
  cases xs with
  | nil => cases h3
  | cons x r => cases h3
theorem Deal.same {H H' : Hp} {d l : Addr} (D : Deal H d l) (e : Same H H') : Deal H' d l := by
  obtain ⟨xs, n, h1, h2, h3⟩ := D.ex
  exact ⟨xs, n, e _ _ h1, e _ _ h2, h3⟩
theorem Deal.fresh {H : Hp} {d l p : Addr} (D : Deal H d l) (h : H p = none) : p ∉ [d, l] := by
  obtain ⟨xs, n, h1, h2, _⟩ := D.ex
  intro z
  rcases List.mem_cons.mp z with e | z
  · rw [e, h1] at h; cases h
  · rw [List.mem_singleton.mp z, h2] at h; cases h
theorem Deal.upd {H : Hp} {d l p : Addr} {o : HO} (D : Deal H d l) (h : p ∉ [d, l]) : Deal (upd H p o) d l := by
  obtain ⟨xs, n, h1, h2, h3⟩ := D.ex
  have n1 : d ≠ p := fun e => h (by simp [e])
  have n2 : l ≠ p := fun e => h (by simp [e])
  exact ⟨xs, n, by rw [upd_ne n1]; exact h1, by rw [upd_ne n2]; exact h2, h3⟩
theorem Deal.none {H : Hp} {d l : Addr} (D : Deal H d l) : ∀ b ∈ [d, l], H b ≠ none := by
  obtain ⟨xs, n, h1, h2, _⟩ := D.ex
  intro b hb
  rcases List.mem_cons.mp hb with e | z
  · rw [e, h1]; simp
  · rw [List.mem_singleton.mp z, h2]; simp
structure Drew (d l : Addr) (H H' : Hp) : Prop where
  deal : Deal H' d l
  grow : Grow [d, l] H H'
theorem Drew.trans {d l : Addr} {H H1 H2 : Hp} (a : Drew d l H H1) (b : Drew d l H1 H2) : Drew d l H H2 := ⟨b.deal, a.grow.trans b.grow⟩
theorem Drew.new {d l : Addr} {H H' : Hp} {p : Addr} {o : HO} (a : Drew d l H H') (h : H' p = none) : Drew d l H (upd H' p o) :=
  ⟨a.deal.upd (a.deal.fresh h), a.grow.trans (Grow.of (same_new h))⟩
theorem Drew.refl {d l : Addr} {H : Hp} (D : Deal H d l) : Drew d l H H := ⟨D, Grow.refl _ _⟩
theorem Drew.same {d l : Addr} {H H' H2 : Hp} (a : Drew d l H H') (e : Same H' H2) : Drew d l H H2 := ⟨a.deal.same e, a.grow.trans (Grow.of e)⟩
theorem Drew.get {d l : Addr} {H H' : Hp} {p : Addr} {o : HO} (a : Drew d l H H') (n : p ∉ [d, l]) (h : H p = some o) : H' p = some o := a.grow p o n h
theorem Drew.free {d l : Addr} {H H' : Hp} {p : Addr} (a : Drew d l H H') (h : H' p = none) : H p = none := a.grow.none a.deal.none h
end Eb

namespace Eb
open PySem PySem.Spec PyProof.Rows L2
end Eb

namespace Eb
open PySem PySem.Spec PyProof.Rows L2 StX
section
variable {CX : CXT} {P : Program} {w : World} {K : PySem.W.Frag} {mg : Str → Option Value} {base : Heap} {k : Nat} {f : Addr} {name qual : Str} {params : Arguments} {body : List Stmt} {scope : Scope} {doc pm cdv ct oc : Value} {an od : Option Addr} {D : Addr}
  {osl : Array (Option Value)} {N : List Str} {sp : Sp} {p1 kn pv : Str} {du : Value} {dv : V}
end
end Eb

namespace Eb
open PySem PySem.Spec PyProof.Rows L2 StX
def InsO (H : Hp) (a C : Addr) : Prop := ∃ dx fs, H a = some (.ins C dx fs)
section
variable {X : Cx} {CX : CXT} {n : Nat} {C g : Addr} {sp : Sp} {E : XK} {pins : List (Addr × Obj)} {σ : L2.St} {H : Hp} {s : Shared}
theorem insO_at {a : Addr} (I : Inv X pins σ H s) (h : InsO H a C) : ∃ ox od, PySem.W.InstAt s.heap a ox C od := by
  obtain ⟨dx, fs, h⟩ := h
  obtain ⟨mA, O, _⟩ := ins_get I.hok h
  obtain ⟨od, J, _⟩ := O.look
  exact ⟨_, _, J⟩
end
end Eb

namespace Eb
open PySem PySem.Spec PyProof.Rows L2
set_option maxRecDepth 100000
end Eb

namespace Eb
open PySem PySem.Spec PySem.W PyProof.Rows
end Eb

namespace Eb
open PySem PySem.Spec PySem.W PyProof.Rows
end Eb

namespace Eb
open PySem PySem.Spec PyProof.Rows L2
inductive D where
  | non | bl (b : Bool) | int (i : Int) | str (x : Str) | ty (n : String) | cl (c : Nat)
  | lst (xs : List D) | tup (xs : List D) | obj (c : Nat) (xs : List D)
  /-- a dict that stands still: its keys, its values -/
  | dic (ks : List Key) (xs : List D)
structure Tb where
  K : PySem.W.Frag
  C : Nat → Addr
  fl : Nat → List Str
  xf : Nat → Str
section
variable (B : Tb) (H : Hp)
mutual
def Rep : D → V → Prop
  | .non, v => v = .non
  | .bl b, v => v = .bl b
  | .int i, v => v = .int i
  | .str x, v => v = .str x
  | .ty n, v => v = .ty n
  | .cl c, v => v = .ref (B.C c)
  | .lst ds, v => ∃ a vs, v = .ref a ∧ H a = some (.lst vs) ∧ RepL ds vs
  | .tup ds, v => ∃ a vs, v = .ref a ∧ SqT B.K H a vs ∧ RepL ds vs
  | .obj c ds, v => ∃ a dx gs, v = .ref a ∧ H a = some (.ins (B.C c) dx gs) ∧ gs.map (·.1) = B.fl c ∧ RepL ds (gs.map (·.2))
  | .dic ks ds, v => ∃ a o kvs, v = .ref a ∧ H a = some (.frz o (.dK kvs)) ∧ kvs.map (·.1) = ks ∧ RepL ds (kvs.map (·.2))
def RepL : List D → List V → Prop
  | [], vs => vs = []
  | d :: ds, vs => ∃ v r, vs = v :: r ∧ Rep d v ∧ RepL ds r
end
end
section
variable {B : Tb} {H H' : Hp}
mutual
theorem Rep.mono (s : Same H H') : ∀ (d : D) (v : V), Rep B H d v → Rep B H' d v
  | .non, _, h => h
  | .bl _, _, h => h
  | .int _, _, h => h
  | .str _, _, h => h
  | .ty _, _, h => h
  | .cl _, _, h => h
  | .lst ds, _, ⟨a, vs, e, h, r⟩ => ⟨a, vs, e, s _ _ h, RepL.mono s ds vs r⟩
  | .tup ds, _, ⟨a, vs, e, h, r⟩ => ⟨a, vs, e, Same_seqT s h, RepL.mono s ds vs r⟩
  | .obj _ ds, _, ⟨a, dx, gs, e, h, n, r⟩ => ⟨a, dx, gs, e, s _ _ h, n, RepL.mono s ds _ r⟩
  | .dic _ ds, _, ⟨a, o, kvs, e, h, n, r⟩ => ⟨a, o, kvs, e, s _ _ h, n, RepL.mono s ds _ r⟩
theorem RepL.mono (s : Same H H') : ∀ (ds : List D) (vs : List V), RepL B H ds vs → RepL B H' ds vs
  | [], _, h => h
  | d :: ds, _, ⟨v, r, e, h1, h2⟩ => ⟨v, r, e, Rep.mono s d v h1, RepL.mono s ds r h2⟩
end
theorem Rep.up (s : Same H H') {d : D} {v : V} (h : Rep B H d v) : Rep B H' d v := Rep.mono s d v h
theorem RepL.up (s : Same H H') {d : List D} {v : List V} (h : RepL B H d v) : RepL B H' d v := RepL.mono s d v h
theorem RepL.len : ∀ {ds : List D} {vs : List V}, RepL B H ds vs → vs.length = ds.length
  | [], _, h => by rw [show _ = [] from h]; rfl
  | d :: ds, _, ⟨v, r, e, _, h⟩ => by rw [e, List.length_cons, List.length_cons, RepL.len h]
theorem RepL.get : ∀ {ds : List D} {vs : List V} {i : Nat} {d : D}, RepL B H ds vs → ds[i]? = some d → ∃ v, vs[i]? = some v ∧ Rep B H d v
  | [], _, _, _, _, e => by simp at e
  | d :: ds, _, 0, _, ⟨v, r, ev, h1, _⟩, e => by
    simp at e
    subst e
    exact ⟨v, by rw [ev]; rfl, h1⟩
  | d :: ds, _, i + 1, _, ⟨v, r, ev, _, h2⟩, e => by
    obtain ⟨w, h3, h4⟩ := RepL.get (i := i) h2 (by simpa using e)
    exact ⟨w, by rw [ev]; simpa using h3, h4⟩
theorem RepL.geti : ∀ {ds : List D} {vs : List V} {i : Nat} {v : V}, RepL B H ds vs → vs[i]? = some v → ∃ d, ds[i]? = some d ∧ Rep B H d v
  | [], _, _, _, h, e => by rw [show _ = [] from h] at e; simp at e
  | d :: ds, _, 0, _, ⟨v, r, ev, h1, _⟩, e => by
    rw [ev] at e
    simp at e
    subst e
    exact ⟨d, rfl, h1⟩
  | d :: ds, _, i + 1, _, ⟨v, r, ev, _, h2⟩, e => by
    rw [ev] at e
    obtain ⟨w, h3, h4⟩ := RepL.geti (i := i) h2 (by simpa using e)
    exact ⟨w, by simpa using h3, h4⟩
theorem RepL.app : ∀ {ds es : List D} {vs us : List V}, RepL B H ds vs → RepL B H es us → RepL B H (ds ++ es) (vs ++ us)
  | [], _, _, _, h, h2 => by rw [show _ = [] from h]; exact h2
  | d :: ds, _, _, _, ⟨v, r, e, h1, h2⟩, h3 => by
    subst e
    exact ⟨v, r ++ _, rfl, h1, RepL.app h2 h3⟩
theorem RepL.cons {d : D} {v : V} {ds : List D} {vs : List V} (h : Rep B H d v) (h2 : RepL B H ds vs) : RepL B H (d :: ds) (v :: vs) := ⟨v, vs, rfl, h, h2⟩
theorem RepL.nil : RepL B H [] [] := rfl
theorem RepL.one {d : D} {v : V} (h : Rep B H d v) : RepL B H [d] [v] := ⟨v, [], rfl, h, rfl⟩
theorem RepL.set {ds : List D} {vs : List V} {d : D} {v : V} {i : Nat} (h : RepL B H ds vs) (h1 : Rep B H d v) : RepL B H (ds.set i d) (vs.set i v) := by
  induction ds generalizing vs i with
  | nil =>
    rw [show vs = [] from h]
    rfl
  | cons c ds ih =>
    obtain ⟨u, r, rfl, h2, h3⟩ := h
    cases i with
    | zero => exact ⟨v, r, rfl, h1, h3⟩
    | succ i => exact ⟨u, _, rfl, h2, ih h3⟩
theorem RepL.drop {ds : List D} {vs : List V} (n : Nat) (h : RepL B H ds vs) : RepL B H (ds.drop n) (vs.drop n) := by
  induction ds generalizing vs n with
  | nil =>
    rw [show vs = [] from h]
    simp
    rfl
  | cons c ds ih =>
    obtain ⟨u, r, rfl, h2, h3⟩ := h
    cases n with
    | zero => exact ⟨u, r, rfl, h2, h3⟩
    | succ n => exact ih n h3
theorem RepL.take {ds : List D} {vs : List V} (n : Nat) (h : RepL B H ds vs) : RepL B H (ds.take n) (vs.take n) := by
  induction ds generalizing vs n with
  | nil =>
    rw [show vs = [] from h]
    simp
    rfl
  | cons c ds ih =>
    obtain ⟨u, r, rfl, h2, h3⟩ := h
    cases n with
    | zero => rfl
    | succ n => exact ⟨u, _, rfl, h2, ih n h3⟩
theorem RepL.ints : ∀ {ns : List Int} {vs : List V}, RepL B H (ns.map D.int) vs → vs = ns.map V.int
  | [], _, h => h
  | n :: ns, _, ⟨v, r, e, h1, h2⟩ => by rw [e, show v = .int n from h1, RepL.ints h2]; rfl
theorem RepL.strs : ∀ {ns : List Str} {vs : List V}, RepL B H (ns.map D.str) vs → vs = ns.map V.str
  | [], _, h => h
  | n :: ns, _, ⟨v, r, e, h1, h2⟩ => by rw [e, show v = .str n from h1, RepL.strs h2]; rfl
theorem RepL.of_strs : ∀ {ns : List Str}, RepL B H (ns.map D.str) (ns.map V.str)
  | [] => rfl
  | n :: ns => ⟨.str n, ns.map V.str, rfl, rfl, RepL.of_strs⟩
theorem RepL.bools : ∀ {ns : List Bool} {vs : List V}, RepL B H (ns.map D.bl) vs → vs = ns.map V.bl
  | [], _, h => h
  | n :: ns, _, ⟨v, r, e, h1, h2⟩ => by rw [e, show v = .bl n from h1, RepL.bools h2]; rfl
end

open Classical in
noncomputable def hid (G : Addr → Prop) (H : Hp) : Hp := fun a => if G a then none else H a
theorem hid_some {G : Addr → Prop} {H : Hp} {a : Addr} {o : HO} : hid G H a = some o ↔ ¬ G a ∧ H a = some o := by
  unfold hid
  by_cases g : G a
  · rw [if_pos g]
    exact ⟨fun h => (nomatch h), fun h => absurd g h.1⟩
  · rw [if_neg g]
    exact ⟨fun h => ⟨g, h⟩, fun h => h.2⟩
theorem hid_same {G : Addr → Prop} {H H' : Hp} (s : Same H H') : Same (hid G H) (hid G H') := fun a o h => by
  rw [hid_some] at h ⊢
  exact ⟨h.1, s _ _ h.2⟩
theorem hid_le {G : Addr → Prop} {H : Hp} : Same (hid G H) H := fun a o h => (hid_some.mp h).2
theorem hid_anti {G G' : Addr → Prop} {H : Hp} (g : ∀ a, G' a → G a) : Same (hid G H) (hid G' H) := fun a o h => by
  rw [hid_some] at h ⊢
  exact ⟨fun z => h.1 (g a z), h.2⟩
theorem hid_grow {G G' : Addr → Prop} {H H' : Hp} (s : ∀ a o, ¬ G a → H a = some o → ¬ G' a ∧ H' a = some o) : Same (hid G H) (hid G' H') := fun a o h => by
  rw [hid_some] at h ⊢
  exact s a o h.1 h.2

structure Lx where
  B : Tb
  Z : Addr → Prop
  M : Addr → Prop
  H0 : Hp
  dl : Option (Addr × Addr)
structure DX where
  c : Nat
  p : Option D
def RepX (B : Tb) (H : Hp) (x : DX) (cv : Value) (od : Option Addr) : Prop := cv = .ref (B.C x.c) ∧ match x.p with
  | none => od = none
  | some d => ∃ a v, od = some a ∧ H a = some (.xd [(B.xf x.c, v)]) ∧ Rep B H d v
theorem RepX.up {B : Tb} {H H' : Hp} {x : DX} {cv : Value} {od : Option Addr} (s : Same H H') (h : RepX B H x cv od) : RepX B H' x cv od := by
  obtain ⟨h1, h2⟩ := h
  refine ⟨h1, ?_⟩
  split
  · rename_i e
    rw [e] at h2
    exact h2
  · rename_i d e
    rw [e] at h2
    obtain ⟨a, v, z1, z2, z3⟩ := h2
    exact ⟨a, v, z1, s _ _ z2, z3.up s⟩
inductive Mu where
  | va (d : D) | ow (ds : List D) | od (ks : List Key) (ds : List D)
inductive Sl where
  | un | va (d : D) | ow (ds : List D) | se (c : Nat) (ds : List D) | dl | er (a : Addr) (cls : Value) (od : Option Addr) (x : DX)
  /-- an own dict that may change; an own instance that may change -/
  | od (ks : List Key) (ds : List D) | mu (b : Bool) (c : Nat) (ms : List Mu)
  /-- the k-th argument, a list or a dict that may change: it was handed in -/
  | pm (k : Nat) (m : Mu)
def mark (k : Nat) : HO := .lst [.int k]
abbrev Ow := Nat → Option Addr
def wput (W : Ow) (i : Nat) (o : Option Addr) : Ow := fun j => if j = i then o else W j
theorem wput_same {W : Ow} {i j : Nat} {o : Option Addr} (h : j = i) : wput W i o j = o := by unfold wput; rw [if_pos h]
theorem wput_ne {W : Ow} {i j : Nat} {o : Option Addr} (h : ¬ j = i) : wput W i o j = W j := by unfold wput; rw [if_neg h]
def Lx.G (Λ : Lx) (W : Ow) (a : Addr) : Prop := Λ.Z a ∨ Λ.M a ∨ ∃ i, W i = some a
noncomputable def Lx.vis (Λ : Lx) (W : Ow) (H : Hp) : Hp := hid (Λ.G W) H
noncomputable def Lx.out (Λ : Lx) (H : Hp) : Hp := hid (fun a => Λ.Z a ∨ Λ.M a) H
def sub (i k : Nat) : Nat := 2 * (1000 * k + i) + 1000
def Sub (j : Nat) : Prop := 1000 ≤ j ∧ j % 2 = 0
theorem sub_Sub {i k : Nat} : Sub (sub i k) := by unfold Sub sub; omega
theorem sub_inj {i k i' k' : Nat} (h : i < 1000) (h' : i' < 1000) (e : sub i k = sub i' k') : i = i' ∧ k = k' := by unfold sub at e; omega
def lstC : Nat := 99999
def Shp (B : Tb) (c n : Nat) (o : HO) (vs : List V) : Prop := (c = lstC ∧ o = .lst vs) ∨ (c ≠ lstC ∧ ∃ dx gs, o = .ins (B.C c) dx gs ∧ gs.map (·.1) = (B.fl c).take n ∧ vs = gs.map (·.2))
theorem Shp.ins {B : Tb} {c n : Nat} {o : HO} {vs : List V} (h : Shp B c n o vs) (hc : c ≠ lstC) : ∃ dx gs, o = .ins (B.C c) dx gs ∧ gs.map (·.1) = (B.fl c).take n ∧ vs = gs.map (·.2) := by
  rcases h with ⟨e, _⟩ | ⟨_, h⟩
  · exact absurd e hc
  · exact h
theorem Shp.lst {B : Tb} {c n : Nat} {o : HO} {vs : List V} (h : Shp B c n o vs) (hc : c = lstC) : o = .lst vs := by
  rcases h with ⟨_, e⟩ | ⟨n, _⟩
  · exact e
  · exact absurd hc n
def MuOk (Λ : Lx) (W : Ow) (H : Hp) (i k : Nat) (v : V) : Mu → Prop
  | .va d => Rep Λ.B (Λ.vis W H) d v
  | .ow ds => ∃ p vs, v = .ref p ∧ W (sub i k) = some p ∧ H p = some (.lst vs) ∧ RepL Λ.B (Λ.vis W H) ds vs
  | .od ks ds => ∃ p kvs, v = .ref p ∧ W (sub i k) = some p ∧ H p = some (.dK kvs) ∧ kvs.map (·.1) = ks ∧ RepL Λ.B (Λ.vis W H) ds (kvs.map (·.2))
def MusOk (Λ : Lx) (W : Ow) (H : Hp) (i : Nat) : Nat → List Mu → List V → Prop
  | _, [], vs => vs = []
  | k, m :: ms, vs => ∃ v r, vs = v :: r ∧ MuOk Λ W H i k v m ∧ MusOk Λ W H i (k + 1) ms r
def SlOk (Λ : Lx) (W : Ow) (σ : L2.St) (H : Hp) (i : Nat) : Sl → Prop
  | .un => True
  | .va d => ∃ v, σ[i]? = some (some v) ∧ Rep Λ.B (Λ.vis W H) d v
  | .ow ds => ∃ p vs, W i = some p ∧ σ[i]? = some (some (.ref p)) ∧ H p = some (.lst vs) ∧ RepL Λ.B (Λ.vis W H) ds vs ∧ ¬ Λ.M p
  | .se c ds => ∃ p dx gs, W i = some p ∧ σ[i]? = some (some (.ref p)) ∧ H p = some (.ins (Λ.B.C c) dx gs) ∧ (gs.map (·.1) = (Λ.B.fl c).take ds.length ∧ Λ.M p) ∧ RepL Λ.B (Λ.vis W H) ds (gs.map (·.2))
  | .dl => ∃ d l, Λ.dl = some (d, l) ∧ σ[i]? = some (some (.ref d))
  | .er a cls od x => σ[i]? = some (some (.ref a)) ∧ RepX Λ.B (Λ.vis W H) x cls od
  | .od ks ds => ∃ p kvs, W i = some p ∧ σ[i]? = some (some (.ref p)) ∧ H p = some (.dK kvs) ∧ kvs.map (·.1) = ks ∧ RepL Λ.B (Λ.vis W H) ds (kvs.map (·.2)) ∧ ¬ Λ.M p
  | .mu b c ms => σ.length ≤ 1000 ∧ ∃ p o vs, W i = some p ∧ σ[i]? = some (some (.ref p)) ∧ H p = some o ∧ (Shp Λ.B c ms.length o vs ∧ (Λ.M p ↔ b = true) ∧ ∀ k a, W (sub i k) = some a → ¬ Λ.M a) ∧ MusOk Λ W H i 0 ms vs
  | .pm k m => ∃ p, Λ.M p ∧ Λ.H0 p = some (mark k) ∧ W i = some p ∧ σ[i]? = some (some (.ref p)) ∧ match m with
    | .va _ => False
    | .ow ds => ∃ vs, H p = some (.lst vs) ∧ RepL Λ.B (Λ.vis W H) ds vs
    | .od ks ds => ∃ kvs, H p = some (.dK kvs) ∧ kvs.map (·.1) = ks ∧ RepL Λ.B (Λ.vis W H) ds (kvs.map (·.2))
structure StOk (Λ : Lx) (env : List Sl) (W : Ow) (σ : L2.St) (H : Hp) : Prop where
  len : σ.length = env.length
  sl : ∀ i s, env[i]? = some s → SlOk Λ W σ H i s
  fr : ∀ a o, ¬ Λ.M a → Λ.H0 a = some o → H a = some o
  mx : ∀ a, Λ.M a → H a ≠ none
  zx : ∀ a, Λ.Z a → H a ≠ none
  wx : ∀ i p, W i = some p → H p ≠ none ∧ ¬ Λ.Z p ∧ (Λ.H0 p = none ∨ Λ.M p)
  wi : ∀ i j p, W i = some p → W j = some p → i = j
  dl : ∀ d l, Λ.dl = some (d, l) → Deal H d l ∧ Λ.M d ∧ Λ.M l ∧ ∀ i, W i ≠ some d ∧ W i ≠ some l
  wf : ∃ n, ∀ m, n ≤ m → W m = none
section
variable {Λ : Lx} {env : List Sl} {W : Ow} {σ : L2.St} {H H' : Hp}
theorem StOk.fresh (S : StOk Λ env W σ H) {p : Addr} (h : H p = none) : ¬ Λ.G W p := by
  rintro (z | z | ⟨i, z⟩)
  · exact S.zx _ z h
  · exact S.mx _ z h
  · exact (S.wx _ _ z).1 h
theorem StOk.fresh0 (S : StOk Λ env W σ H) {p : Addr} (h : H p = none) : Λ.H0 p = none := by
  cases q : Λ.H0 p with
  | none => rfl
  | some o =>
    by_cases m : Λ.M p
    · exact absurd h (S.mx _ m)
    · rw [S.fr p o m q] at h
      cases h
theorem MuOk.gen {W' : Ow} {i k : Nat} {v : V} {m : Mu} (e : Same (Λ.vis W H) (Λ.vis W' H')) (hw : ∀ p, W (sub i k) = some p → W' (sub i k) = some p) (ho : ∀ p o, W (sub i k) = some p → H p = some o → H' p = some o) (h : MuOk Λ W H i k v m) : MuOk Λ W' H' i k v m := by
  cases m with
  | va d => exact Rep.mono e d v h
  | ow ds =>
    obtain ⟨p, vs, h0, h1, h2, h3⟩ := h
    exact ⟨p, vs, h0, hw _ h1, ho _ _ h1 h2, h3.up e⟩
  | od ks ds =>
    obtain ⟨p, kvs, h0, h1, h2, h3, h4⟩ := h
    exact ⟨p, kvs, h0, hw _ h1, ho _ _ h1 h2, h3, h4.up e⟩
theorem MusOk.gen {W' : Ow} {i : Nat} (e : Same (Λ.vis W H) (Λ.vis W' H')) (hw : ∀ k p, W (sub i k) = some p → W' (sub i k) = some p) (ho : ∀ k p o, W (sub i k) = some p → H p = some o → H' p = some o) : ∀ {ms : List Mu} {k : Nat} {vs : List V}, MusOk Λ W H i k ms vs → MusOk Λ W' H' i k ms vs
  | [], _, _, h => h
  | m :: ms, k, _, ⟨v, r, e1, h1, h2⟩ => ⟨v, r, e1, h1.gen e (hw k) (ho k), h2.gen e hw ho⟩
theorem MusOk.len {i : Nat} : ∀ {ms : List Mu} {k : Nat} {vs : List V}, MusOk Λ W H i k ms vs → vs.length = ms.length
  | [], _, _, h => by rw [show _ = [] from h]; rfl
  | m :: ms, k, _, ⟨v, r, e1, h1, h2⟩ => by rw [e1, List.length_cons, List.length_cons, h2.len]
theorem SlOk.genS {W' : Ow} {σ' : L2.St} {s : Sl} {i : Nat} (hl : σ'.length = σ.length) (hσ : σ'[i]? = σ[i]?) (e : Same (Λ.vis W H) (Λ.vis W' H')) (hw : ∀ j p, (j = i ∨ (σ.length ≤ 1000 ∧ ∃ k, j = sub i k)) → W j = some p → W' j = some p)
    (ho : ∀ j p o, (j = i ∨ (σ.length ≤ 1000 ∧ ∃ k, j = sub i k)) → W j = some p → H p = some o → H' p = some o) (h : SlOk Λ W σ H i s) (hn : ∀ k a, W' (sub i k) = some a → W (sub i k) = some a ∨ ¬ Λ.M a := by exact fun _ _ z => .inl z) : SlOk Λ W' σ' H' i s := by
  cases s with
  | un => trivial
  | va d =>
    obtain ⟨v, h1, h2⟩ := h
    exact ⟨v, hσ.trans h1, h2.up e⟩
  | ow ds =>
    obtain ⟨p, vs, h0, h1, h2, h3, h4⟩ := h
    exact ⟨p, vs, hw _ _ (.inl rfl) h0, hσ.trans h1, ho _ _ _ (.inl rfl) h0 h2, h3.up e, h4⟩
  | se c ds =>
    obtain ⟨p, dx, gs, h0, h1, h2, h3, h4⟩ := h
    exact ⟨p, dx, gs, hw _ _ (.inl rfl) h0, hσ.trans h1, ho _ _ _ (.inl rfl) h0 h2, h3, h4.up e⟩
  | dl =>
    obtain ⟨d, l, h0, h1⟩ := h
    exact ⟨d, l, h0, hσ.trans h1⟩
  | er a cls od dx =>
    obtain ⟨z1, z2⟩ := h
    exact ⟨hσ.trans z1, z2.up e⟩
  | od ks ds =>
    obtain ⟨p, kvs, h0, h1, h2, h3, h4, h5⟩ := h
    exact ⟨p, kvs, hw _ _ (.inl rfl) h0, hσ.trans h1, ho _ _ _ (.inl rfl) h0 h2, h3, h4.up e, h5⟩
  | mu b c ms =>
    obtain ⟨hz, p, dx, gs, h0, h1, h2, ⟨h3, h5, h6⟩, h4⟩ := h
    exact ⟨by rw [hl]; exact hz, p, dx, gs, hw _ _ (.inl rfl) h0, hσ.trans h1, ho _ _ _ (.inl rfl) h0 h2, ⟨h3, h5, fun k a z => (hn k a z).elim (h6 k a) id⟩, h4.gen e (fun k q => hw _ _ (.inr ⟨hz, k, rfl⟩)) fun k q o => ho _ _ _ (.inr ⟨hz, k, rfl⟩)⟩
  | pm k m =>
    obtain ⟨p, h5, h6, h0, h1, h2⟩ := h
    refine ⟨p, h5, h6, hw _ _ (.inl rfl) h0, hσ.trans h1, ?_⟩
    cases m with
    | va d => exact h2.elim
    | ow ds =>
      obtain ⟨vs, h2, h3⟩ := h2
      exact ⟨vs, ho _ _ _ (.inl rfl) h0 h2, h3.up e⟩
    | od ks ds =>
      obtain ⟨kvs, h2, h3, h4⟩ := h2
      exact ⟨kvs, ho _ _ _ (.inl rfl) h0 h2, h3, h4.up e⟩
theorem SlOk.gen {W' : Ow} {σ' : L2.St} {s : Sl} {i : Nat} (hl : σ'.length = σ.length) (hσ : σ'[i]? = σ[i]?) (e : Same (Λ.vis W H) (Λ.vis W' H')) (hw : ∀ j p, (j = i ∨ (σ.length ≤ 1000 ∧ Sub j)) → W j = some p → W' j = some p)
    (ho : ∀ j p o, (j = i ∨ (σ.length ≤ 1000 ∧ Sub j)) → W j = some p → H p = some o → H' p = some o) (h : SlOk Λ W σ H i s) (hn : ∀ k a, W' (sub i k) = some a → W (sub i k) = some a ∨ ¬ Λ.M a := by exact fun _ _ z => .inl z) : SlOk Λ W' σ' H' i s :=
  h.genS hl hσ e (fun j p hj => hw j p (hj.imp id fun ⟨z, k, e⟩ => ⟨z, e ▸ sub_Sub⟩)) (fun j p o hj => ho j p o (hj.imp id fun ⟨z, k, e⟩ => ⟨z, e ▸ sub_Sub⟩)) hn
theorem SlOk.mono {s : Sl} {i : Nat} (e : Same (Λ.vis W H) (Λ.vis W H')) (k : ∀ j p o, W j = some p → H p = some o → H' p = some o) (h : SlOk Λ W σ H i s) : SlOk Λ W σ H' i s :=
  h.gen rfl rfl e (fun _ _ _ z => z) fun j p o _ => k j p o
theorem some_mono {H H' : Hp} {a : Addr} (s : Same H H') (h : H a ≠ none) : H' a ≠ none := by
  cases q : H a with
  | none => exact absurd q h
  | some o => rw [s _ _ q]; simp
theorem StOk.grow (S : StOk Λ env W σ H) (s : Same H H') : StOk Λ env W σ H' where
  len := S.len
  sl := fun i x e => (S.sl i x e).mono (hid_same s) fun _ p o _ h => s _ _ h
  fr := fun a o m h => s _ _ (S.fr a o m h)
  mx := fun a m => some_mono s (S.mx a m)
  zx := fun a m => some_mono s (S.zx a m)
  wx := fun i p e => ⟨some_mono s (S.wx i p e).1, (S.wx i p e).2⟩
  wi := S.wi
  dl := fun d l e => ⟨(S.dl d l e).1.same s, (S.dl d l e).2⟩
  wf := S.wf
theorem vis_same (s : Same H H') : Same (Λ.vis W H) (Λ.vis W H') := hid_same s
structure Ev (Λ : Lx) (W : Ow) (H H' : Hp) : Prop where
  vis : Same (Λ.vis W H) (Λ.vis W H')
  own : ∀ i p o, W i = some p → H p = some o → H' p = some o
  all : ∀ a, H a ≠ none → H' a ≠ none
theorem Ev.refl : Ev Λ W H H := ⟨fun _ _ h => h, fun _ _ _ _ h => h, fun _ h => h⟩
theorem Ev.trans {H1 H2 : Hp} (a : Ev Λ W H H1) (b : Ev Λ W H1 H2) : Ev Λ W H H2 := ⟨a.vis.trans b.vis, fun i p o w h => b.own i p o w (a.own i p o w h), fun c h => b.all c (a.all c h)⟩
theorem Ev.of (s : Same H H') : Ev Λ W H H' := ⟨hid_same s, fun _ _ _ _ h => s _ _ h, fun _ h => some_mono s h⟩
theorem Ev.free (e : Ev Λ W H H') {p : Addr} (h : H' p = none) : H p = none := by
  cases q : H p with
  | none => rfl
  | some o => exact absurd h (e.all p (by rw [q]; simp))
theorem StOk.drew (S : StOk Λ env W σ H) {d l : Addr} (e : Λ.dl = some (d, l)) (w : Drew d l H H') : StOk Λ env W σ H' ∧ Ev Λ W H H' := by
  obtain ⟨D0, md, ml, nw⟩ := S.dl d l e
  have nin : ∀ a, ¬ Λ.M a → a ∉ [d, l] := fun a m z => by
    rcases List.mem_cons.mp z with q | z
    · subst q; exact m md
    · rw [List.mem_singleton.mp z] at m; exact m ml
  have wn : ∀ i p, W i = some p → p ∉ [d, l] := fun i p q z => by
    rcases List.mem_cons.mp z with r | z
    · rw [r] at q; exact (nw i).1 q
    · rw [List.mem_singleton.mp z] at q; exact (nw i).2 q
  have sm : Same (Λ.vis W H) (Λ.vis W H') := hid_grow fun a o g h => ⟨g, w.grow a o (nin a fun m => g (.inr (.inl m))) h⟩
  have st : ∀ a, H a ≠ none → H' a ≠ none := fun a h => by
    by_cases z : a ∈ [d, l]
    · exact w.deal.none a z
    · cases q : H a with
      | none => exact absurd q h
      | some o => rw [w.grow a o z q]; simp
  refine ⟨⟨S.len, fun i x q => (S.sl i x q).mono sm fun j p o q2 h => w.grow p o (wn j p q2) h, fun a o m h => w.grow a o (nin a m) (S.fr a o m h), fun a m => st a (S.mx a m), fun a m => st a (S.zx a m), fun i p q => ⟨st p (S.wx i p q).1, (S.wx i p q).2⟩, S.wi, fun d' l' q => ?_, S.wf⟩, sm, fun i p o q h => w.grow p o (wn i p q) h, st⟩
  rw [e] at q
  cases q
  exact ⟨w.deal, md, ml, nw⟩
theorem wput_fin {i : Nat} {o : Option Addr} (h : ∃ n, ∀ m, n ≤ m → W m = none) : ∃ n, ∀ m, n ≤ m → wput W i o m = none := by
  obtain ⟨n, h⟩ := h
  exact ⟨n + i + 1, fun m hm => by rw [wput_ne (by omega)]; exact h m (by omega)⟩
theorem vis_drop {i : Nat} : Same (Λ.vis W H) (Λ.vis (wput W i none) H) := hid_anti fun a g => by
  rcases g with z | z | ⟨j, z⟩
  · exact .inl z
  · exact .inr (.inl z)
  · refine .inr (.inr ⟨j, ?_⟩)
    by_cases q : j = i
    · rw [wput_same q] at z; cases z
    · rw [wput_ne q] at z; exact z
theorem StOk.putD (S : StOk Λ env W σ H) {i : Nat} {d : D} {v : V} (hi : i < env.length) (r : Rep Λ.B (Λ.vis W H) d v) :
    StOk Λ (env.set i (.va d)) (wput W i none) (σ.set i (some v)) H where
  len := by rw [List.length_set, List.length_set]; exact S.len
  sl := fun j x e => by
    by_cases q : j = i
    · subst q
      have hj : j < env.length := by
        have := (List.getElem?_eq_some_iff.mp e).1
        rwa [List.length_set] at this
      rw [List.getElem?_set_self hj] at e
      cases e
      exact ⟨v, List.getElem?_set_self (by rw [S.len]; exact hj), r.up vis_drop⟩
    · rw [List.getElem?_set_ne (Ne.symm q)] at e
      have z := S.sl j x e
      exact z.gen (List.length_set ..) (List.getElem?_set_ne (Ne.symm q)) vis_drop (fun j' p hj hp => by
        rw [wput_ne]
        · exact hp
        · rcases hj with hj | ⟨hj, hs⟩
          · rw [hj]; exact q
          · have := S.len; have := hs.1; omega) (fun _ _ _ _ _ h => h) fun k a z => .inl (by
        by_cases y : sub j k = i
        · rw [wput_same y] at z; cases z
        · rw [wput_ne y] at z; exact z)
  fr := S.fr
  mx := S.mx
  zx := S.zx
  wx := fun j p e => by
    by_cases q : j = i
    · rw [wput_same q] at e; cases e
    · rw [wput_ne q] at e; exact S.wx j p e
  wi := fun j k p e1 e2 => by
    by_cases q : j = i
    · rw [wput_same q] at e1; cases e1
    · rw [wput_ne q] at e1
      by_cases q2 : k = i
      · rw [wput_same q2] at e2; cases e2
      · rw [wput_ne q2] at e2; exact S.wi j k p e1 e2
  dl := fun d l e => by
    obtain ⟨D0, md, ml, nw⟩ := S.dl d l e
    refine ⟨D0, md, ml, fun j => ?_⟩
    by_cases q : j = i
    · rw [wput_same q]; exact ⟨by simp, by simp⟩
    · rw [wput_ne q]; exact nw j
  wf := wput_fin S.wf
theorem StOk.put (S : StOk Λ env W σ H) {i : Nat} {d : D} {v : V} (r : Rep Λ.B (Λ.vis W H) d v) : StOk Λ (env.set i (.va d)) W (σ.set i (some v)) H where
  len := by rw [List.length_set, List.length_set]; exact S.len
  sl := fun j x e => by
    by_cases q : j = i
    · subst q
      have hj : j < env.length := by
        have := (List.getElem?_eq_some_iff.mp e).1
        rwa [List.length_set] at this
      rw [List.getElem?_set_self hj] at e
      cases e
      exact ⟨v, List.getElem?_set_self (by rw [S.len]; exact hj), r⟩
    · rw [List.getElem?_set_ne (Ne.symm q)] at e
      have z := S.sl j x e
      have eq : (σ.set i (some v))[j]? = σ[j]? := List.getElem?_set_ne (Ne.symm q)
      exact z.gen (List.length_set ..) (List.getElem?_set_ne (Ne.symm q)) (Same.refl _) (fun _ _ _ h => h) fun _ _ _ _ _ h => h
  fr := S.fr
  mx := S.mx
  zx := S.zx
  wx := S.wx
  wi := S.wi
  dl := S.dl
  wf := S.wf
theorem StOk.ev {env2 : List Sl} {σ2 : L2.St} (S : StOk Λ env W σ H) (S2 : StOk Λ env2 W σ2 H') (e : Ev Λ W H H') : StOk Λ env W σ H' :=
  ⟨S.len, fun i x h => (S.sl i x h).mono e.vis fun j p o hw h2 => e.own j p o hw h2, S2.fr, S2.mx, S2.zx, S2.wx, S2.wi, S2.dl, S2.wf⟩
theorem StOk.mutV (S : StOk Λ env W σ H) {n : Nat} {p : Addr} {o : HO} (hw : W n = some p) (hn : env.length ≤ n) (hs : ¬ Sub n) (hm : ¬ Λ.M p) : StOk Λ env W σ (upd H p o) := by
  have v1 : Same (Λ.vis W H) (Λ.vis W (upd H p o)) := hid_grow fun a u g ha => ⟨g, by rw [upd_ne (show a ≠ p from fun z => g (.inr (.inr ⟨n, by rw [z]; exact hw⟩)))]; exact ha⟩
  have st : ∀ a, H a ≠ none → upd H p o a ≠ none := fun a h => by
    by_cases z : a = p
    · rw [z, upd_same]; simp
    · rw [upd_ne z]; exact h
  refine ⟨S.len, fun j x ej => (S.sl j x ej).gen rfl rfl v1 (fun _ _ _ z => z) fun j' p' o' hj' hj h => ?_, fun a u m h0 => ?_, fun a m => st a (S.mx a m), fun a m => st a (S.zx a m), fun j q ej => ⟨st q (S.wx j q ej).1, (S.wx j q ej).2⟩, S.wi, fun d l ed => ?_, S.wf⟩
  · have hj2 : j < env.length := (List.getElem?_eq_some_iff.mp ej).1
    have nj : j' ≠ n := by
      rcases hj' with e | ⟨_, e⟩
      · omega
      · exact fun y => hs (y ▸ e)
    rw [upd_ne (show p' ≠ p from fun z => nj (S.wi j' n p (by rw [← z]; exact hj) hw))]
    exact h
  · have := S.fr a u m h0
    have n : a ≠ p := fun z => by
      subst z
      rcases (S.wx n a hw).2.2 with q | q
      · rw [q] at h0; cases h0
      · exact m q
    rw [upd_ne n]
    exact this
  · obtain ⟨D0, md, ml, nw⟩ := S.dl d l ed
    refine ⟨D0.upd fun z => ?_, md, ml, nw⟩
    rcases List.mem_cons.mp z with q | z
    · rw [q] at hw; exact (nw n).1 hw
    · rw [List.mem_singleton.mp z] at hw; exact (nw n).2 hw
theorem StOk.show_ {W2 : Ow} (S : StOk Λ env W2 σ H) {n : Nat} (hn : env.length ≤ n) (hs : ¬ Sub n) (hW : ∀ j, j ≠ n → W j = W2 j) (hWn : W n = none) : StOk Λ env W σ H := by
  have g : ∀ a, Λ.G W a → Λ.G W2 a := fun a g => by
    rcases g with z | z | ⟨j, z⟩
    · exact .inl z
    · exact .inr (.inl z)
    · by_cases q : j = n
      · rw [q, hWn] at z; cases z
      · exact .inr (.inr ⟨j, by rw [← hW j q]; exact z⟩)
  have v : Same (Λ.vis W2 H) (Λ.vis W H) := hid_anti g
  have nw : ∀ j p, W j = some p → W2 j = some p := fun j p e => by
    by_cases q : j = n
    · rw [q, hWn] at e; cases e
    · rw [← hW j q]; exact e
  refine ⟨S.len, fun j x ej => ?_, S.fr, S.mx, S.zx, fun j p e => S.wx j p (nw j p e), fun i j p e1 e2 => S.wi i j p (nw i p e1) (nw j p e2), fun d l ed => ?_, ?_⟩
  · have hj : j ≠ n := by have := (List.getElem?_eq_some_iff.mp ej).1; omega
    have z := S.sl j x ej
    refine z.gen rfl rfl v (fun j' p hj' hp => ?_) (fun _ _ _ _ _ h => h) fun k a y => .inl (nw _ _ y)
    rw [hW]
    · exact hp
    · rcases hj' with e | ⟨_, e⟩
      · rw [e]; exact hj
      · exact fun y => hs (y ▸ e)
  · obtain ⟨D0, md, ml, nw2⟩ := S.dl d l ed
    exact ⟨D0, md, ml, fun j => ⟨fun z => (nw2 j).1 (nw j d z), fun z => (nw2 j).2 (nw j l z)⟩⟩
  · obtain ⟨m, hm⟩ := S.wf
    refine ⟨m, fun j hj => ?_⟩
    by_cases q : j = n
    · rw [q]; exact hWn
    · rw [hW j q]; exact hm j hj
theorem StOk.forget (S : StOk Λ env W σ H) {i : Nat} : StOk Λ (env.set i .un) W (σ.set i none) H where
  len := by rw [List.length_set, List.length_set]; exact S.len
  sl := fun j x e => by
    by_cases q : j = i
    · subst q
      have hj : j < env.length := by
        have := (List.getElem?_eq_some_iff.mp e).1
        rwa [List.length_set] at this
      rw [List.getElem?_set_self hj] at e
      cases e
      trivial
    · rw [List.getElem?_set_ne (Ne.symm q)] at e
      have z := S.sl j x e
      exact z.gen (List.length_set ..) (List.getElem?_set_ne (Ne.symm q)) (Same.refl _) (fun _ _ _ h => h) fun _ _ _ _ _ h => h
  fr := S.fr
  mx := S.mx
  zx := S.zx
  wx := S.wx
  wi := S.wi
  dl := S.dl
  wf := S.wf
theorem StOk.hide (S : StOk Λ env W σ H) (S' : StOk Λ env W σ H') (e : Ev Λ W H H') {i : Nat} {p : Addr} (hp : H p = none) (h' : H' p ≠ none) (hi : env.length ≤ i ∧ W i = none ∨ i < env.length) :
    StOk Λ (env.set i .un) (wput W i (some p)) σ H' ∧ Same (Λ.vis W H) (Λ.vis (wput W i (some p)) H') ∧ Same (hid (fun a => a = p) (Λ.vis W H')) (Λ.vis (wput W i (some p)) H') := by
  have G1 : ∀ a, Λ.G (wput W i (some p)) a → a ≠ p → Λ.G W a := fun a g n => by
    rcases g with z | z | ⟨j, z⟩
    · exact .inl z
    · exact .inr (.inl z)
    · refine .inr (.inr ⟨j, ?_⟩)
      by_cases q : j = i
      · rw [wput_same q] at z; cases z; exact absurd rfl n
      · rw [wput_ne q] at z; exact z
  have nW : ∀ j, W j ≠ some p := fun j z => (S.wx j p z).1 hp
  have v1 : Same (Λ.vis W H) (Λ.vis (wput W i (some p)) H') := fun a o ha => by
    have n : a ≠ p := ne_of_none (hid_some.mp ha).2 hp
    obtain ⟨g, h2⟩ := hid_some.mp (e.vis a o ha)
    exact hid_some.mpr ⟨fun g' => g (G1 a g' n), h2⟩
  have v2 : Same (hid (fun a => a = p) (Λ.vis W H')) (Λ.vis (wput W i (some p)) H') := fun a o ha => by
    obtain ⟨n, ha⟩ := hid_some.mp ha
    obtain ⟨g, ha⟩ := hid_some.mp ha
    exact hid_some.mpr ⟨fun g' => g (G1 a g' n), ha⟩
  have hpp : ¬ Λ.G W p := S.fresh hp
  refine ⟨⟨by rw [List.length_set]; exact S.len, fun j x ej => ?_, S'.fr, S'.mx, S'.zx, fun j q ej => ?_, fun j k q e1 e2 => ?_, fun d l ed => ?_, wput_fin S.wf⟩, v1, v2⟩
  · by_cases q : j = i
    · subst q
      have hj : j < env.length := by
        have := (List.getElem?_eq_some_iff.mp ej).1
        rwa [List.length_set] at this
      rw [List.getElem?_set_self hj] at ej
      cases ej
      trivial
    · rw [List.getElem?_set_ne (Ne.symm q)] at ej
      have z := S.sl j x ej
      refine z.gen rfl rfl v1 (fun j' p' hj hp' => ?_) (fun j' p' o _ hp' h => e.own _ _ _ hp' h) fun k a y => by
        by_cases y2 : sub j k = i
        · rw [wput_same y2] at y; cases y; exact .inr fun m => hpp (.inr (.inl m))
        · rw [wput_ne y2] at y; exact .inl y
      rw [wput_ne]
      · exact hp'
      · rcases hj with hj | ⟨hz, hj⟩
        · rw [hj]; exact q
        · rcases hi with ⟨_, hi⟩ | hi
          · intro y; rw [y, hi] at hp'; cases hp'
          · have := S.len; have := hj.1; omega
  · by_cases z : j = i
    · rw [wput_same z] at ej
      cases ej
      exact ⟨h', fun z => hpp (.inl z), .inl (S.fresh0 hp)⟩
    · rw [wput_ne z] at ej
      exact S'.wx j q ej
  · by_cases z : j = i
    · rw [wput_same z] at e1
      cases e1
      by_cases z2 : k = i
      · rw [z, z2]
      · rw [wput_ne z2] at e2
        exact absurd e2 (nW k)
    · rw [wput_ne z] at e1
      by_cases z2 : k = i
      · rw [wput_same z2] at e2
        cases e2
        exact absurd e1 (nW j)
      · rw [wput_ne z2] at e2
        exact S.wi j k q e1 e2
  · obtain ⟨D0, md, ml, nw⟩ := S.dl d l ed
    refine ⟨(S'.dl d l ed).1, md, ml, fun j => ?_⟩
    by_cases q : j = i
    · rw [wput_same q]
      obtain ⟨hd, hl⟩ : H d ≠ none ∧ H l ≠ none := ⟨D0.none d (by simp), D0.none l (by simp)⟩
      exact ⟨fun z => by cases z; exact hd hp, fun z => by cases z; exact hl hp⟩
    · rw [wput_ne q]
      exact nw j
theorem StOk.putOwn (S : StOk Λ env W σ H) (S' : StOk Λ env W σ H') (e : Ev Λ W H H') {i : Nat} {p : Addr} {ds : List D} {vs : List V} (hp : H p = none) (h : H' p = some (.lst vs)) (r : RepL Λ.B (hid (fun a => a = p) (Λ.vis W H')) ds vs) (hi : i < env.length) :
    StOk Λ (env.set i (.ow ds)) (wput W i (some p)) (σ.set i (some (.ref p))) H' ∧ Same (Λ.vis W H) (Λ.vis (wput W i (some p)) H') := by
  obtain ⟨S2, v1, v2⟩ := S.hide S' e (i := i) hp (by rw [h]; simp) (.inr hi)
  have hpp : ¬ Λ.G W p := S.fresh hp
  refine ⟨⟨by rw [List.length_set, List.length_set]; exact S.len, fun j x ej => ?_, S2.fr, S2.mx, S2.zx, S2.wx, S2.wi, S2.dl, S2.wf⟩, v1⟩
  by_cases q : j = i
  · subst q
    rw [List.getElem?_set_self hi] at ej
    cases ej
    exact ⟨p, vs, wput_same rfl, List.getElem?_set_self (by rw [S.len]; exact hi), h, r.up v2, fun z => hpp (.inr (.inl z))⟩
  · rw [List.getElem?_set_ne (Ne.symm q)] at ej
    have z := S2.sl j x (by rw [List.getElem?_set_ne (Ne.symm q)]; exact ej)
    have eq : (σ.set i (some (V.ref p)))[j]? = σ[j]? := List.getElem?_set_ne (Ne.symm q)
    exact z.gen (List.length_set ..) eq (Same.refl _) (fun _ _ _ h => h) fun _ _ _ _ _ h => h
theorem StOk.mut (S : StOk Λ env W σ H) {i : Nat} {p : Addr} {o : HO} {s : Sl} (hw : W i = some p) (hs : SlOk Λ W σ (upd H p o) i s) (hsz : i < env.length) :
    StOk Λ (env.set i s) W σ (upd H p o) ∧ Same (Λ.vis W H) (Λ.vis W (upd H p o)) := by
  have v1 : Same (Λ.vis W H) (Λ.vis W (upd H p o)) := hid_grow fun a u g ha => ⟨g, by rw [upd_ne (show a ≠ p from fun z => g (.inr (.inr ⟨i, by rw [z]; exact hw⟩)))]; exact ha⟩
  have st : ∀ a, H a ≠ none → upd H p o a ≠ none := fun a h => by
    by_cases z : a = p
    · rw [z, upd_same]; simp
    · rw [upd_ne z]; exact h
  refine ⟨⟨by rw [List.length_set]; exact S.len, fun j x ej => ?_, fun a u m h0 => ?_, fun a m => st a (S.mx a m), fun a m => st a (S.zx a m), fun j q ej => ⟨st q (S.wx j q ej).1, (S.wx j q ej).2⟩, S.wi, fun d l ed => ?_, S.wf⟩, v1⟩
  · by_cases q : j = i
    · subst q
      rw [List.getElem?_set_self hsz] at ej
      cases ej
      exact hs
    · rw [List.getElem?_set_ne (Ne.symm q)] at ej
      refine (S.sl j x ej).gen rfl rfl v1 (fun _ _ _ z => z) fun j' p' o' hj' hj h => ?_
      have nj : j' ≠ i := by
        rcases hj' with e | ⟨hz, e⟩
        · rw [e]; exact q
        · have := S.len; have := e.1; omega
      rw [upd_ne (show p' ≠ p from fun z => nj (S.wi j' i p (by rw [← z]; exact hj) hw))]
      exact h
  · have := S.fr a u m h0
    have n : a ≠ p := fun z => by
      subst z
      rcases (S.wx i a hw).2.2 with q | q
      · rw [q] at h0; cases h0
      · exact m q
    rw [upd_ne n]
    exact this
  · obtain ⟨D0, md, ml, nw⟩ := S.dl d l ed
    refine ⟨D0.upd fun z => ?_, md, ml, nw⟩
    rcases List.mem_cons.mp z with q | z
    · rw [q] at hw; exact (nw i).1 hw
    · rw [List.mem_singleton.mp z] at hw; exact (nw i).2 hw
theorem StOk.freeze (S : StOk Λ env W σ H) {i : Nat} {ds : List D} (h : env[i]? = some (.ow ds)) :
    StOk Λ (env.set i (.va (.lst ds))) (wput W i none) σ H ∧ Same (Λ.vis W H) (Λ.vis (wput W i none) H) := by
  obtain ⟨p, vs, h0, h1, h2, h3, h4⟩ := S.sl i _ h
  have nG : ¬ Λ.G (wput W i none) p := by
    rintro (z | z | ⟨j, z⟩)
    · exact (S.wx i p h0).2.1 z
    · exact h4 z
    · by_cases q : j = i
      · rw [wput_same q] at z; cases z
      · rw [wput_ne q] at z; exact q (S.wi j i p z h0)
  have es : σ.set i (some (.ref p)) = σ := by
    obtain ⟨hi, e⟩ := List.getElem?_eq_some_iff.mp h1
    rw [← e, List.set_getElem_self]
  have S1 : StOk Λ env (wput W i none) σ H → True := fun _ => trivial
  -- put asks for the value ahead of the drop: by hand
  have S2 := S.putD (i := i) (d := .non) (v := .non) (List.getElem?_eq_some_iff.mp h).1 rfl
  refine ⟨⟨by rw [List.length_set]; exact S.len, fun j x e => ?_, S.fr, S.mx, S.zx, S2.wx, S2.wi, S2.dl, S2.wf⟩, vis_drop⟩
  by_cases q : j = i
  · subst q
    rw [List.getElem?_set_self (List.getElem?_eq_some_iff.mp h).1] at e
    cases e
    exact ⟨.ref p, h1, p, vs, rfl, hid_some.mpr ⟨nG, h2⟩, h3.up vis_drop⟩
  · rw [List.getElem?_set_ne (Ne.symm q)] at e
    have z := S2.sl j x (by rw [List.getElem?_set_ne (Ne.symm q)]; exact e)
    have eq : (σ.set i (some V.non))[j]? = σ[j]? := List.getElem?_set_ne (Ne.symm q)
    exact z.gen (List.length_set ..).symm eq.symm (Same.refl _) (fun _ _ _ h => h) fun _ _ _ _ _ h => h
end
end Eb

namespace Eb
open PySem PySem.Spec PyProof.Rows L2
def iteB (b : Bool) (X Y : Prop) : Prop := match b with
  | true => X
  | false => Y
theorem iteB_by {b : Bool} {X Y : Prop} (h1 : b = true → X) (h2 : b = false → Y) : iteB b X Y := by
  cases b with
  | true => exact h1 rfl
  | false => exact h2 rfl
theorem iteB_t {b : Bool} {X Y : Prop} (h : b = true) (h1 : X) : iteB b X Y := iteB_by (fun _ => h1) fun z => by rw [h] at z; cases z
theorem iteB_f {b : Bool} {X Y : Prop} (h : b = false) (h1 : Y) : iteB b X Y := iteB_by (fun z => by rw [h] at z; cases z) fun _ => h1
abbrev DK := (D → Prop) → (DX → Prop) → Prop
abbrev DE := List Sl → (D → Prop) → (DX → Prop) → Prop
abbrev DT := List Sl → (Bool → Prop) → (DX → Prop) → Prop
abbrev DA := List Sl → (List D → Prop) → (DX → Prop) → Prop
structure DEnds where
  nx : List Sl → Prop
  rt : List Sl → D → Prop
  bk : List Sl → Prop
  ct : List Sl → Prop
  ex : List Sl → DX → Prop
abbrev DS := List Sl → DEnds → Prop
abbrev DG := D → List Sl → (List Sl → Prop) → Prop
def XOk (Λ : Lx) (w : WX) (env : List Sl) (W : Ow) (σ : L2.St) (H : Hp) (x : DX → Prop) : Prop :=
  ∀ dx cv od H', x dx → StOk Λ env W σ H' → Ev Λ W H H' → RepX Λ.B (Λ.vis W H') dx cv od → w cv od σ H'
theorem XOk.on {Λ : Lx} {w : WX} {env : List Sl} {W : Ow} {σ : L2.St} {H H' : Hp} {x : DX → Prop} (h : XOk Λ w env W σ H x) (e : Ev Λ W H H') : XOk Λ w env W σ H' x := fun dx cv od H2 hx S e2 r => h dx cv od H2 hx S (e.trans e2) r
def Snd (Λ : Lx) (w : WX) (te : TE) (t : DE) : Prop := ∀ env W σ H (Q : VK) q x, StOk Λ env W σ H → XOk Λ w env W σ H x → t env q x →
  (∀ d v H', q d → StOk Λ env W σ H' → Ev Λ W H H' → Rep Λ.B (Λ.vis W H') d v → Q v H') → te σ H Q
def SndT (Λ : Lx) (w : WX) (te : TT) (t : DT) : Prop := ∀ env W σ H (Q : Bool → Hp → Prop) q x, StOk Λ env W σ H → XOk Λ w env W σ H x → t env q x →
  (∀ b H', q b → StOk Λ env W σ H' → Ev Λ W H H' → Q b H') → te σ H Q
def SndA (Λ : Lx) (w : WX) (te : TA) (t : DA) : Prop := ∀ env W σ H (Q : List V → Hp → Prop) q x, StOk Λ env W σ H → XOk Λ w env W σ H x → t env q x →
  (∀ ds vs H', q ds → StOk Λ env W σ H' → Ev Λ W H H' → RepL Λ.B (Λ.vis W H') ds vs → Q vs H') → te σ H Q
def SndL (Λ : Lx) (w : WX) (te : TE) (t : DA) : Prop := ∀ env W σ H (Q : VK) q x, StOk Λ env W σ H → XOk Λ w env W σ H x → t env q x →
  (∀ ds p vs H', q ds → StOk Λ env W σ H' → Ev Λ W H H' → H p = none → H' p = some (.lst vs) → RepL Λ.B (hid (fun a => a = p) (Λ.vis W H')) ds vs → Q (.ref p) H') → te σ H Q
def SndR (Λ : Lx) (w : WX) (r : R2) (f : D → D → DK) : Prop := ∀ env W σ H d e v u (Q : VK) q x, StOk Λ env W σ H → XOk Λ w env W σ H x → Rep Λ.B (Λ.vis W H) d v → Rep Λ.B (Λ.vis W H) e u → f d e q x →
  (∀ d v H', q d → StOk Λ env W σ H' → Ev Λ W H H' → Rep Λ.B (Λ.vis W H') d v → Q v H') → r v u H Q
def SndC (Λ : Lx) (w : WX) (r : List V → Hp → VK → Prop) (f : List D → DK) : Prop := ∀ env W σ H ds vs (Q : VK) q x, StOk Λ env W σ H → XOk Λ w env W σ H x → RepL Λ.B (Λ.vis W H) ds vs → f ds q x →
  (∀ d v H', q d → StOk Λ env W σ H' → Ev Λ W H H' → Rep Λ.B (Λ.vis W H') d v → Q v H') → r vs H Q
def SndCL (Λ : Lx) (w : WX) (r : List V → Hp → VK → Prop) (f : List D → (List D → Prop) → (DX → Prop) → Prop) : Prop := ∀ env W σ H ds vs (Q : VK) q x, StOk Λ env W σ H → XOk Λ w env W σ H x → RepL Λ.B (Λ.vis W H) ds vs → f ds q x →
  (∀ ds p vs H', q ds → StOk Λ env W σ H' → Ev Λ W H H' → H p = none → H' p = some (.lst vs) → RepL Λ.B (hid (fun a => a = p) (Λ.vis W H')) ds vs → Q (.ref p) H') → r vs H Q
structure Lnk (Λ : Lx) (w : WX) (W : Ow) (H : Hp) (E : Ends) (e : DEnds) : Prop where
  nx : ∀ env' W' σ' H', e.nx env' → StOk Λ env' W' σ' H' → Same (Λ.vis W H) (Λ.vis W' H') → E.nx σ' H'
  bk : ∀ env' W' σ' H', e.bk env' → StOk Λ env' W' σ' H' → Same (Λ.vis W H) (Λ.vis W' H') → E.bk σ' H'
  ct : ∀ env' W' σ' H', e.ct env' → StOk Λ env' W' σ' H' → Same (Λ.vis W H) (Λ.vis W' H') → E.ct σ' H'
  rt : ∀ d v env' W' σ' H', e.rt env' d → StOk Λ env' W' σ' H' → Rep Λ.B (Λ.vis W' H') d v → E.rt v H'
  ex : ∀ env' W' σ' H' dx cv od, e.ex env' dx → StOk Λ env' W' σ' H' → Same (Λ.vis W H) (Λ.vis W' H') → RepX Λ.B (Λ.vis W' H') dx cv od → w cv od σ' H'
theorem Lnk.on {Λ : Lx} {w : WX} {W W' : Ow} {H H' : Hp} {E : Ends} {e : DEnds} (L : Lnk Λ w W H E e) (s : Same (Λ.vis W H) (Λ.vis W' H')) : Lnk Λ w W' H' E e :=
  ⟨fun _ _ _ _ a b c => L.nx _ _ _ _ a b (s.trans c), fun _ _ _ _ a b c => L.bk _ _ _ _ a b (s.trans c), fun _ _ _ _ a b c => L.ct _ _ _ _ a b (s.trans c), L.rt, fun _ _ _ _ _ _ _ a b c => L.ex _ _ _ _ _ _ _ a b (s.trans c)⟩
theorem Lnk.xok {Λ : Lx} {w : WX} {W : Ow} {H : Hp} {E : Ends} {e : DEnds} (L : Lnk Λ w W H E e) {env : List Sl} {σ : L2.St} : XOk Λ w env W σ H (e.ex env) := fun dx cv od H' hx S ev r => L.ex _ _ _ _ dx cv od hx S ev.vis r
def SndS (Λ : Lx) (w : WX) (ts : TS) (t : DS) : Prop := ∀ env W σ H (E : Ends) e, StOk Λ env W σ H → Lnk Λ w W H E e → t env e → ts E σ H
def SndG (Λ : Lx) (g : TG) (t : DG) (js : List Nat) : Prop := ∀ env W σ H d v q (Q : L2.St → Hp → Prop), StOk Λ env W σ H → Rep Λ.B (Λ.vis W H) d v → t d env q →
  (∀ env' σ', q env' → env'.length = env.length → StOk Λ env' W σ' H → (∀ vs : List Nat, (∀ j ∈ js, j ∈ vs) → wipe σ' vs = wipe σ vs) → Q σ' H) → g v σ H Q
structure ItOk (Λ : Lx) (W : Ow) (H : Hp) (J : It) (ds : List D) : Prop where
  go : ∀ i env' W' σ' H', i < ds.length → StOk Λ env' W' σ' H' → Same (Λ.vis W H) (Λ.vis W' H') → J.go i H'
  stop : ∀ env' W' σ' H', StOk Λ env' W' σ' H' → Same (Λ.vis W H) (Λ.vis W' H') → J.stop ds.length H'
  yld : ∀ i x env' W' σ' H' H'', i < ds.length → StOk Λ env' W' σ' H' → Same (Λ.vis W H) (Λ.vis W' H') → J.yld i H' x H'' → Same H' H'' ∧ ∃ d, ds[i]? = some d ∧ Rep Λ.B (Λ.vis W' H'') d x
def SndI (Λ : Lx) (w : WX) (wi : TI) (t : DA) : Prop := ∀ env W σ H (R : It → Hp → Prop) q x, StOk Λ env W σ H → XOk Λ w env W σ H x → t env q x →
  (∀ ds J H', q ds → StOk Λ env W σ H' → Ev Λ W H H' → ItOk Λ W H' J ds → R J H') → wi σ H R

structure XE (X : Cx) (Λ : Lx) (w : WX) (e : Expr) (t : DE) : Prop where
  ex : X.K = Λ.B.K → ∃ te, PE X e te ∧ Snd Λ w te t
structure XT (X : Cx) (Λ : Lx) (w : WX) (e : Expr) (t : DT) : Prop where
  ex : X.K = Λ.B.K → ∃ te, PT X e te ∧ SndT Λ w te t
structure XW (X : Cx) (Λ : Lx) (w : WX) (e : Expr) (t : DT) : Prop where
  ex : X.K = Λ.B.K → ∃ te, PW X e te ∧ SndT Λ w te t
structure XTs (X : Cx) (Λ : Lx) (w : WX) (e : List Expr) (t : DT) : Prop where
  ex : X.K = Λ.B.K → ∃ te, PTs X e te ∧ SndT Λ w te t
structure XA (X : Cx) (Λ : Lx) (w : WX) (es : List Expr) (t : DA) : Prop where
  ex : X.K = Λ.B.K → ∃ te, PA X es te ∧ SndA Λ w te t
structure XL (X : Cx) (Λ : Lx) (w : WX) (e : Expr) (t : DA) : Prop where
  ex : X.K = Λ.B.K → ∃ te, PE X e te ∧ SndL Λ w te t
structure XS (X : Cx) (Λ : Lx) (w : WX) (e : Stmt) (t : DS) : Prop where
  ex : X.K = Λ.B.K → ∃ te, PS X e te ∧ SndS Λ w te t
structure XSs (X : Cx) (Λ : Lx) (w : WX) (e : List Stmt) (t : DS) : Prop where
  ex : X.K = Λ.B.K → ∃ te, PSs X e te ∧ SndS Λ w te t
structure XG (X : Cx) (Λ : Lx) (e : Expr) (t : DG) (js : List Nat) : Prop where
  ex : X.K = Λ.B.K → ∃ te, PG X e te ∧ SndG Λ te t js
structure XI (X : Cx) (Λ : Lx) (w : WX) (tg e : Expr) (t : DA) : Prop where
  ex : X.K = Λ.B.K → ∃ te, PI X tg e te ∧ SndI Λ w te t
section
variable {X : Cx} {Λ : Lx} {w : WX} {a b c e : Expr} {es : List Expr} {ta tb tc t : DE} {tA tB : DT} {pos : Pos}
def dVar (i : Nat) : DE := fun env q _ => match env[i]? with
  | some (.va d) => q d
  | _ => False
def dC (d : D) : DE := fun _ q _ => q d
theorem snd_var {i : Nat} : Snd Λ w (tVar i) (dVar i) := fun env W σ H Q q x S _ h k => by
  unfold dVar at h
  split at h
  · rename_i d hd
    obtain ⟨v, h1, h2⟩ := S.sl i _ hd
    exact ⟨v, h1, k d v H h S .refl h2⟩
  · exact h.elim
theorem snd_c {v : V} {d : D} (r : ∀ H, Rep Λ.B H d v) : Snd Λ w (tC v) (dC d) := fun env W σ H Q q x S _ h k => k d v H h S .refl (r _)
theorem xe_of {te : TE} (h : PE X a te) (s : Snd Λ w te t) : XE X Λ w a t := ⟨fun _ => ⟨te, h, s⟩⟩
theorem xe_int {i : Int} {j : Nat} : XE X Λ w (.Constant (.int i) j pos) (dC (.int i)) := xe_of pe_int (snd_c fun _ => rfl)
theorem xe_bl {i : Bool} {j : Nat} : XE X Λ w (.Constant (.bool i) j pos) (dC (.bl i)) := xe_of pe_bl (snd_c fun _ => rfl)
theorem xe_non {j : Nat} : XE X Λ w (.Constant .none j pos) (dC .non) := xe_of pe_non (snd_c fun _ => rfl)
theorem xe_str {i : Str} {j : Nat} : XE X Λ w (.Constant (.str i) j pos) (dC (.str i)) := xe_of pe_str (snd_c fun _ => rfl)
def dOp (f : D → D → DK) (a b : DE) : DE := fun env q x => a env (fun u => b env (fun v => f u v q x) x) x
theorem snd_op {r : R2} {f : D → D → DK} {ra rb : TE} (hr : SndR Λ w r f) (ha : Snd Λ w ra ta) (hb : Snd Λ w rb tb) : Snd Λ w (tOp r ra rb) (dOp f ta tb) := fun env W σ H Q q x S hx h k =>
  ha env W σ H _ _ x S hx h fun d v H1 h1 S1 e1 r1 => hb env W σ H1 _ _ x S1 (hx.on e1) h1 fun d2 v2 H2 h2 S2 e2 r2 =>
    hr env W σ H2 d d2 v v2 Q q x S2 (hx.on (e1.trans e2)) (r1.up e2.vis) r2 h2 fun d3 v3 H3 h3 S3 e3 r3 => k d3 v3 H3 h3 S3 ((e1.trans e2).trans e3) r3
theorem xe_op {op : Operator} {r : R2} {f : D → D → DK} (ho : X.K = Λ.B.K → OpR X (binaryOp op) r) (hr : SndR Λ w r f) (ha : XE X Λ w a ta) (hb : XE X Λ w b tb) : XE X Λ w (.BinOp a op b pos) (dOp f ta tb) := ⟨fun hK => by
  obtain ⟨ra, pa, sa⟩ := ha.ex hK
  obtain ⟨rb, pb, sb⟩ := hb.ex hK
  exact ⟨_, pe_op (ho hK) pa pb, snd_op hr sa sb⟩⟩
theorem xe_cmp {op : CmpOp} {r : R2} {f : D → D → DK} (ho : X.K = Λ.B.K → OpR X (compareOp op) r) (hr : SndR Λ w r f) (ha : XE X Λ w a ta) (hb : XE X Λ w b tb) (hm : behindInMarks op b = false) : XE X Λ w (.Compare a [op] [b] pos) (dOp f ta tb) := ⟨fun hK => by
  obtain ⟨ra, pa, sa⟩ := ha.ex hK
  obtain ⟨rb, pb, sb⟩ := hb.ex hK
  exact ⟨_, pe_cmpR (ho hK) pa pb hm, snd_op hr sa sb⟩⟩
def dTest (t : DE) : DT := fun env q x => t env (fun d => match d with
  | .bl k => q k
  | _ => False) x
theorem snd_test {ra : TE} (ha : Snd Λ w ra ta) : SndT Λ w (tTest ra) (dTest ta) := fun env W σ H Q q x S hx h k =>
  ha env W σ H _ _ x S hx h fun d v H1 h1 S1 e1 r1 => by
    cases d with
    | bl b => exact ⟨b, r1, k b H1 h1 S1 e1⟩
    | _ => exact h1.elim
theorem xt_cmp {op : CmpOp} {r : R2} {f : D → D → DK} (ho : X.K = Λ.B.K → OpR X (compareOp op) r) (hr : SndR Λ w r f) (ha : XE X Λ w a ta) (hb : XE X Λ w b tb) (hm : behindInMarks op b = false) : XT X Λ w (.Compare a [op] [b] pos) (dTest (dOp f ta tb)) := ⟨fun hK => by
  obtain ⟨ra, pa, sa⟩ := ha.ex hK
  obtain ⟨rb, pb, sb⟩ := hb.ex hK
  exact ⟨_, pt_cmpR (ho hK) pa pb hm, snd_test (snd_op hr sa sb)⟩⟩
def dChain (f g : D → D → DK) (a b c : DE) : DE := fun env q x => a env (fun u => b env (fun v => f u v (fun z => match z with
  | .bl k => iteB k (c env (fun y => g v y q x) x) (q (.bl false))
  | _ => False) x) x) x
theorem snd_chain {r r' : R2} {f g : D → D → DK} {ra rb rc : TE} (hr : SndR Λ w r f) (hr' : SndR Λ w r' g) (ha : Snd Λ w ra ta) (hb : Snd Λ w rb tb) (hc : Snd Λ w rc tc) : Snd Λ w (tChain r r' ra rb rc) (dChain f g ta tb tc) := fun env W σ H Q q x S hx h k =>
  ha env W σ H _ _ x S hx h fun d v H1 h1 S1 e1 r1 => hb env W σ H1 _ _ x S1 (hx.on e1) h1 fun d2 v2 H2 h2 S2 e2 r2 =>
    hr env W σ H2 d d2 v v2 _ _ x S2 (hx.on (e1.trans e2)) (r1.up e2.vis) r2 h2 fun d3 v3 H3 h3 S3 e3 r3 => by
      cases d3 with
      | bl b =>
        refine ⟨b, r3, ?_⟩
        exact Bool.casesOn (motive := fun b => iteB b (tc env (fun y => g d2 y q x) x) (q (.bl false)) → (if b = true then rc σ H3 fun w' H4 => r' v2 w' H4 Q else Q (.bl false) H3)) b
          (fun h3 => k _ _ H3 h3 S3 ((e1.trans e2).trans e3) rfl)
          (fun h3 => hc env W σ H3 _ _ x S3 (hx.on ((e1.trans e2).trans e3)) h3 fun d4 v4 H4 h4 S4 e4 r4 =>
            hr' env W σ H4 d2 d4 v2 v4 Q q x S4 (hx.on (((e1.trans e2).trans e3).trans e4)) ((r2.up e3.vis).up e4.vis) r4 h4 fun d5 v5 H5 h5 S5 e5 r5 => k d5 v5 H5 h5 S5 ((((e1.trans e2).trans e3).trans e4).trans e5) r5) h3
      | _ => exact h3.elim
theorem xe_chain {op op' : CmpOp} {r r' : R2} {f g : D → D → DK} (ho : X.K = Λ.B.K → OpR X (compareOp op) r) (hr : SndR Λ w r f) (ho' : X.K = Λ.B.K → OpR X (compareOp op') r') (hr' : SndR Λ w r' g) (ha : XE X Λ w a ta) (hb : XE X Λ w b tb) (hc : XE X Λ w c tc)
    (hm : lastMarks [op, op'] [b, c] = false := by with_unfolding_all rfl) : XE X Λ w (.Compare a [op, op'] [b, c] pos) (dChain f g ta tb tc) := ⟨fun hK => by
  obtain ⟨ra, pa, sa⟩ := ha.ex hK
  obtain ⟨rb, pb, sb⟩ := hb.ex hK
  obtain ⟨rc, pc, sc⟩ := hc.ex hK
  exact ⟨_, pe_chain (ho hK) (ho' hK) pa pb pc hm, snd_chain hr hr' sa sb sc⟩⟩
theorem xt_chain {op op' : CmpOp} {r r' : R2} {f g : D → D → DK} (ho : X.K = Λ.B.K → OpR X (compareOp op) r) (hr : SndR Λ w r f) (ho' : X.K = Λ.B.K → OpR X (compareOp op') r') (hr' : SndR Λ w r' g) (ha : XE X Λ w a ta) (hb : XE X Λ w b tb) (hc : XE X Λ w c tc)
    (hm : lastMarks [op, op'] [b, c] = false := by with_unfolding_all rfl) : XT X Λ w (.Compare a [op, op'] [b, c] pos) (dTest (dChain f g ta tb tc)) := ⟨fun hK => by
  obtain ⟨ra, pa, sa⟩ := ha.ex hK
  obtain ⟨rb, pb, sb⟩ := hb.ex hK
  obtain ⟨rc, pc, sc⟩ := hc.ex hK
  exact ⟨_, pt_chain (ho hK) (ho' hK) pa pb pc hm, snd_test (snd_chain hr hr' sa sb sc)⟩⟩
def truD : D → (Bool → Prop) → Prop
  | .non, q => q false
  | .bl b, q => q b
  | .int i, q => q (i != 0)
  | .str y, q => y.length ≤ 100000 ∧ q ((y.length : Int) != 0)
  | .lst xs, q => q (!xs.isEmpty)
  | .tup xs, q => q (!xs.isEmpty)
  | _, _ => False
theorem RepL.emp {B : Tb} {H : Hp} {ds : List D} {vs : List V} (h : RepL B H ds vs) : vs.isEmpty = ds.isEmpty := by
  have := h.len
  cases ds <;> cases vs <;> simp_all
theorem tru_rep {W : Ow} {H : Hp} {d : D} {v : V} {q : Bool → Prop} (r : Rep Λ.B (Λ.vis W H) d v) (h : truD d q) : ∃ k, TruV Λ.B.K v H k ∧ q k := by
  cases d with
  | non => cases r; exact ⟨false, rfl, h⟩
  | bl b => cases r; exact ⟨b, rfl, h⟩
  | int i => cases r; exact ⟨_, rfl, h⟩
  | str y => cases r; exact ⟨_, ⟨sz h.1, rfl⟩, h.2⟩
  | lst xs =>
    obtain ⟨a, vs, rfl, h1, h2⟩ := r
    exact ⟨_, .inl ⟨vs, sqL_of (hid_le _ _ h1), by rw [h2.emp]⟩, h⟩
  | tup xs =>
    obtain ⟨a, vs, rfl, h1, h2⟩ := r
    exact ⟨_, .inr (.inl ⟨vs, Same_seqT hid_le h1, by rw [h2.emp]⟩), h⟩
  | _ => exact h.elim
def dTruth (t : DE) : DT := fun env q x => t env (fun d => truD d q) x
theorem xt_truth (ha : XE X Λ w a ta) (he : ∀ whole, isTrue a X.env whole = (do let v ← whole; standAt a.pos; holding [v] (truthy v))) : XT X Λ w a (dTruth ta) := ⟨fun hK => by
  obtain ⟨ra, pa, sa⟩ := ha.ex hK
  refine ⟨_, pt_truth pa he, fun env W σ H Q q x S hx h k => sa env W σ H _ _ x S hx h fun d v H1 h1 S1 e1 r1 => ?_⟩
  obtain ⟨b, hb, hq⟩ := tru_rep r1 h1
  rw [hK]
  exact ⟨b, hb, k b H1 hq S1 e1⟩⟩
def dAnd (t u : DT) : DT := fun env q x => t env (fun c => iteB c (u env q x) (q false)) x
def dOr (t u : DT) : DT := fun env q x => t env (fun c => iteB c (q true) (u env q x)) x
def dNot (t : DT) : DT := fun env q x => t env (fun c => q (!c)) x
theorem snd_and {ra rb : TT} (ha : SndT Λ w ra tA) (hb : SndT Λ w rb tB) : SndT Λ w (tAnd ra rb) (dAnd tA tB) := fun env W σ H Q q x S hx h k =>
  ha env W σ H _ _ x S hx h fun b H1 h1 S1 e1 => by
    cases b with
    | true => exact hb env W σ H1 Q q x S1 (hx.on e1) h1 fun b2 H2 h2 S2 e2 => k b2 H2 h2 S2 (e1.trans e2)
    | false => exact k false H1 h1 S1 e1
theorem snd_or {ra rb : TT} (ha : SndT Λ w ra tA) (hb : SndT Λ w rb tB) : SndT Λ w (tOr ra rb) (dOr tA tB) := fun env W σ H Q q x S hx h k =>
  ha env W σ H _ _ x S hx h fun b H1 h1 S1 e1 => by
    cases b with
    | false => exact hb env W σ H1 Q q x S1 (hx.on e1) h1 fun b2 H2 h2 S2 e2 => k b2 H2 h2 S2 (e1.trans e2)
    | true => exact k true H1 h1 S1 e1
theorem xt_not (ha : XT X Λ w a tA) : XT X Λ w (.UnaryOp .Not a pos) (dNot tA) := ⟨fun hK => by
  obtain ⟨ra, pa, sa⟩ := ha.ex hK
  exact ⟨_, pt_not pa, fun env W σ H Q q x S hx h k => sa env W σ H _ _ x S hx h fun b H1 h1 S1 e1 => k _ H1 h1 S1 e1⟩⟩
theorem xw_and {r : List Expr} (ha : XT X Λ w a tA) (hb : XW X Λ w (.BoolOp .And (b :: r) pos) tB) : XW X Λ w (.BoolOp .And (a :: b :: r) pos) (dAnd tA tB) := ⟨fun hK => by
  obtain ⟨ra, pa, sa⟩ := ha.ex hK
  obtain ⟨rb, pb, sb⟩ := hb.ex hK
  exact ⟨_, pw_and pa pb, snd_and sa sb⟩⟩
theorem xw_or {r : List Expr} (ha : XT X Λ w a tA) (hb : XW X Λ w (.BoolOp .Or (b :: r) pos) tB) : XW X Λ w (.BoolOp .Or (a :: b :: r) pos) (dOr tA tB) := ⟨fun hK => by
  obtain ⟨ra, pa, sa⟩ := ha.ex hK
  obtain ⟨rb, pb, sb⟩ := hb.ex hK
  exact ⟨_, pw_or pa pb, snd_or sa sb⟩⟩
theorem xw_and1 (ha : XT X Λ w a tA) : XW X Λ w (.BoolOp .And [a] pos) tA := ⟨fun hK => by
  obtain ⟨ra, pa, sa⟩ := ha.ex hK
  exact ⟨_, pw_and1 pa, sa⟩⟩
theorem xw_or1 (ha : XT X Λ w a tA) : XW X Λ w (.BoolOp .Or [a] pos) tA := ⟨fun hK => by
  obtain ⟨ra, pa, sa⟩ := ha.ex hK
  exact ⟨_, pw_or1 pa, sa⟩⟩
theorem XW.xt (ha : XW X Λ w a tA) : XT X Λ w a tA := ⟨fun hK => by
  obtain ⟨ra, pa, sa⟩ := ha.ex hK
  exact ⟨_, pa.pt, sa⟩⟩
def dAndT (t u : DE) : DE := fun env q x => t env (fun d => truD d fun k => iteB k (u env q x) (q d)) x
def dOrT (t u : DE) : DE := fun env q x => t env (fun d => truD d fun k => iteB k (q d) (u env q x)) x
def dNotT (t : DE) : DE := fun env q x => t env (fun d => truD d fun k => q (.bl (!k))) x
theorem xe_andT {r : List Expr} (ha : XE X Λ w a ta) (hb : XE X Λ w (.BoolOp .And (b :: r) pos) tb) : XE X Λ w (.BoolOp .And (a :: b :: r) pos) (dAndT ta tb) := ⟨fun hK => by
  obtain ⟨ra, pa, sa⟩ := ha.ex hK
  obtain ⟨rb, pb, sb⟩ := hb.ex hK
  refine ⟨_, pe_andT pa pb, fun env W σ H Q q x S hx h k => sa env W σ H _ _ x S hx h fun d v H1 h1 S1 e1 r1 => ?_⟩
  obtain ⟨c, hc, hq⟩ := tru_rep r1 h1
  rw [hK]
  refine ⟨c, hc, ?_⟩
  cases c with
  | true => exact sb env W σ H1 Q q x S1 (hx.on e1) hq fun b2 v2 H2 h2 S2 e2 => k b2 v2 H2 h2 S2 (e1.trans e2)
  | false => exact k d v H1 hq S1 e1 r1⟩
theorem xe_orT {r : List Expr} (ha : XE X Λ w a ta) (hb : XE X Λ w (.BoolOp .Or (b :: r) pos) tb) : XE X Λ w (.BoolOp .Or (a :: b :: r) pos) (dOrT ta tb) := ⟨fun hK => by
  obtain ⟨ra, pa, sa⟩ := ha.ex hK
  obtain ⟨rb, pb, sb⟩ := hb.ex hK
  refine ⟨_, pe_orT pa pb, fun env W σ H Q q x S hx h k => sa env W σ H _ _ x S hx h fun d v H1 h1 S1 e1 r1 => ?_⟩
  obtain ⟨c, hc, hq⟩ := tru_rep r1 h1
  rw [hK]
  refine ⟨c, hc, ?_⟩
  cases c with
  | false => exact sb env W σ H1 Q q x S1 (hx.on e1) hq fun b2 v2 H2 h2 S2 e2 => k b2 v2 H2 h2 S2 (e1.trans e2)
  | true => exact k d v H1 hq S1 e1 r1⟩
theorem xe_notT (ha : XE X Λ w a ta) : XE X Λ w (.UnaryOp .Not a pos) (dNotT ta) := ⟨fun hK => by
  obtain ⟨ra, pa, sa⟩ := ha.ex hK
  refine ⟨_, pe_notT pa, fun env W σ H Q q x S hx h k => sa env W σ H _ _ x S hx h fun d v H1 h1 S1 e1 r1 => ?_⟩
  obtain ⟨c, hc, hq⟩ := tru_rep r1 h1
  rw [hK]
  exact ⟨c, hc, k _ _ H1 hq S1 e1 rfl⟩⟩
theorem xe_one {op : BoolOp} (ha : XE X Λ w a ta) : XE X Λ w (.BoolOp op [a] pos) ta := ⟨fun hK => by
  obtain ⟨ra, pa, sa⟩ := ha.ex hK
  exact ⟨_, pe_one pa, sa⟩⟩
def dIf (t : DT) (a b : DE) : DE := fun env q x => t env (fun c => iteB c (a env q x) (b env q x)) x
theorem xe_if (hc : XT X Λ w c tA) (ha : XE X Λ w a ta) (hb : XE X Λ w b tb) : XE X Λ w (.IfExp c a b pos) (dIf tA ta tb) := ⟨fun hK => by
  obtain ⟨rc, pc, sc⟩ := hc.ex hK
  obtain ⟨ra, pa, sa⟩ := ha.ex hK
  obtain ⟨rb, pb, sb⟩ := hb.ex hK
  refine ⟨_, pe_ifExp pc pa pb, fun env W σ H Q q x S hx h k => sc env W σ H _ _ x S hx h fun c H1 h1 S1 e1 => ?_⟩
  cases c with
  | true => exact sa env W σ H1 Q q x S1 (hx.on e1) h1 fun b2 v2 H2 h2 S2 e2 => k b2 v2 H2 h2 S2 (e1.trans e2)
  | false => exact sb env W σ H1 Q q x S1 (hx.on e1) h1 fun b2 v2 H2 h2 S2 e2 => k b2 v2 H2 h2 S2 (e1.trans e2)⟩
def dNil : DA := fun _ q _ => q []
def dCons (t : DE) (u : DA) : DA := fun env q x => t env (fun d => u env (fun ds => q (d :: ds)) x) x
theorem xa_nil : XA X Λ w [] dNil := ⟨fun _ => ⟨_, pa_nil, fun env W σ H Q q x S hx h k => k [] [] H h S .refl rfl⟩⟩
theorem xa_cons {u : DA} (ha : XE X Λ w e ta) (hb : XA X Λ w es u) (hs : starEach (e :: es) X.env = (false, eval e X.env) :: starEach es X.env := by rfl) : XA X Λ w (e :: es) (dCons ta u) := ⟨fun hK => by
  obtain ⟨ra, pa, sa⟩ := ha.ex hK
  obtain ⟨rb, pb, sb⟩ := hb.ex hK
  refine ⟨_, pa_cons pa pb hs, fun env W σ H Q q x S hx h k => sa env W σ H _ _ x S hx h fun d v H1 h1 S1 e1 r1 => sb env W σ H1 _ _ x S1 (hx.on e1) h1 fun ds vs H2 h2 S2 e2 r2 => ?_⟩
  exact k (d :: ds) (v :: vs) H2 h2 S2 (e1.trans e2) ⟨v, vs, rfl, r1.up e2.vis, r2⟩⟩
theorem vis_new {env : List Sl} {W : Ow} {σ : L2.St} {H : Hp} {p : Addr} {o : HO} (S : StOk Λ env W σ H) (hp : H p = none) : Λ.vis W (upd H p o) p = some o := hid_some.mpr ⟨S.fresh hp, upd_same⟩
def dTup (u : DA) : DE := fun env q x => u env (fun ds => ds.length ≤ 100000 ∧ q (.tup ds)) x
theorem xe_tup {u : DA} {x1} (ha : XA X Λ w es u) : XE X Λ w (.Tuple es x1 pos) (dTup u) := ⟨fun hK => by
  obtain ⟨ra, pa, sa⟩ := ha.ex hK
  refine ⟨_, pe_tup pa, fun env W σ H Q q x S hx h k => sa env W σ H _ _ x S hx h fun ds vs H1 h1 S1 e1 r1 => ⟨by rw [r1.len]; exact sz h1.1, fun p hp => ?_⟩⟩
  have s := same_new (o := .tup vs) hp
  exact k _ _ _ h1.2 (S1.grow s) (e1.trans (.of s)) ⟨p, vs, rfl, sqT_of (vis_new S1 hp), r1.up (vis_same s)⟩⟩
def dLst (u : DA) : DA := fun env q x => u env (fun ds => ds.length ≤ 100000 ∧ q ds) x
theorem vis_hid {env : List Sl} {W : Ow} {σ : L2.St} {H : Hp} {p : Addr} {o : HO} (S : StOk Λ env W σ H) (hp : H p = none) : Same (Λ.vis W H) (hid (fun a => a = p) (Λ.vis W (upd H p o))) := fun a u h => by
  obtain ⟨g, h⟩ := hid_some.mp h
  have n := ne_of_none h hp
  exact hid_some.mpr ⟨n, hid_some.mpr ⟨g, by rw [upd_ne n]; exact h⟩⟩
theorem xl_lst {u : DA} (ha : XA X Λ w es u) : XL X Λ w (.List es pos) (dLst u) := ⟨fun hK => by
  obtain ⟨ra, pa, sa⟩ := ha.ex hK
  refine ⟨_, pe_lst pa, fun env W σ H Q q x S hx h k => sa env W σ H _ _ x S hx h fun ds vs H1 h1 S1 e1 r1 => ⟨by rw [r1.len]; exact sz h1.1, fun p hp => ?_⟩⟩
  have s := same_new (o := .lst vs) hp
  exact k _ p vs _ h1.2 (S1.grow s) (e1.trans (.of s)) (e1.free hp) upd_same (r1.up (vis_hid S1 hp))⟩
def dL (u : DA) : DE := fun env q x => u env (fun ds => q (.lst ds)) x
theorem SndL.snd {ra : TE} {u : DA} (h : SndL Λ w ra u) : Snd Λ w ra (dL u) := fun env W σ H Q q x S hx hh k => h env W σ H Q _ x S hx hh fun ds p vs H' h1 S1 e1 hp h2 r =>
  k _ _ H' h1 S1 e1 ⟨p, vs, rfl, hid_some.mpr ⟨S.fresh hp, h2⟩, r.up hid_le⟩
theorem XL.xe {u : DA} (h : XL X Λ w e u) : XE X Λ w e (dL u) := ⟨fun hK => by
  obtain ⟨ra, pa, sa⟩ := h.ex hK
  exact ⟨_, pa, sa.snd⟩⟩
end
end Eb

namespace Eb
open PySem PySem.Spec PyProof.Rows L2
section
variable {X : Cx} {Λ : Lx} {w : WX} {a b c e : Expr} {es : List Expr} {ta tb tc t : DE} {tA tB : DT} {pos : Pos} {st : Stmt} {sts : List Stmt} {ts us : DS}
theorem xe_var {i : Nat} {y : Str} {p : Pos} (h : PE X (.Name y p) (tVar i)) : XE X Λ w (.Name y p) (dVar i) := xe_of h snd_var
def dNext : DS := fun env e => e.nx env
def dSeq (t u : DS) : DS := fun env e => t env { e with nx := fun env' => u env' e }
theorem snd_next : SndS Λ w tNext dNext := fun env W σ H E e S L h => L.nx env W σ H h S (Same.refl _)
theorem snd_seq {r r' : TS} (h1 : SndS Λ w r ts) (h2 : SndS Λ w r' us) : SndS Λ w (tSeq r r') (dSeq ts us) := fun env W σ H E e S L h =>
  h1 env W σ H { E with nx := r' E } { e with nx := fun env' => us env' e } S ⟨fun env' W' σ' H' a S' s => h2 env' W' σ' H' E e S' (L.on s) a, L.bk, L.ct, L.rt, L.ex⟩ h
theorem xss_nil : XSs X Λ w [] dNext := ⟨fun _ => ⟨_, pss_nil, snd_next⟩⟩
theorem xss_cons (h1 : XS X Λ w st ts) (h2 : XSs X Λ w sts us) : XSs X Λ w (st :: sts) (dSeq ts us) := ⟨fun hK => by
  obtain ⟨r, p, s⟩ := h1.ex hK
  obtain ⟨r', p', s'⟩ := h2.ex hK
  exact ⟨_, pss_cons p p', snd_seq s s'⟩⟩
theorem xss_one (h1 : XS X Λ w st ts) : XSs X Λ w [st] ts := ⟨fun hK => by
  obtain ⟨r, p, s⟩ := h1.ex hK
  exact ⟨_, pss_one p, s⟩⟩
def dNever : DS := fun _ _ => False
theorem xs_never : XS X Λ w st dNever := ⟨fun _ => ⟨_, ps_never, fun env W σ H E e S L h => h.elim⟩⟩
def dDrop (t : DE) : DS := fun env e => t env (fun _ => e.nx env) (e.ex env)
theorem xs_expr (h : XE X Λ w a t) (hs : swapsWith a none pos.line X.env = pure false := by rfl) : XS X Λ w (.Expr a pos) (dDrop t) := ⟨fun hK => by
  obtain ⟨r, p, s⟩ := h.ex hK
  exact ⟨_, ps_expr p hs, fun env W σ H E e S L h => s env W σ H _ _ _ S L.xok h fun d v H' q S' ev r => L.nx env W σ H' q S' ev.vis⟩⟩
def dRet (t : DE) : DS := fun env e => t env (e.rt env) (e.ex env)
theorem out_of {W : Ow} {H : Hp} : Same (Λ.vis W H) (Λ.out H) := hid_anti fun a g => g.elim .inl fun z => .inr (.inl z)
theorem xs_ret (h : XE X Λ w a t) : XS X Λ w (.Return (some a) pos) (dRet t) := ⟨fun hK => by
  obtain ⟨r, p, s⟩ := h.ex hK
  exact ⟨_, ps_ret p, fun env W σ H E e S L h => s env W σ H _ _ _ S L.xok h fun d v H' q S' ev r => L.rt d v env W σ H' q S' r⟩⟩
def dIfS (c : DT) (t u : DS) : DS := fun env e => c env (fun b => iteB b (t env e) (u env e)) (e.ex env)
theorem xs_if {s1 s2 : List Stmt} (hc : XT X Λ w c tA) (h1 : XSs X Λ w s1 ts) (h2 : XSs X Λ w s2 us) : XS X Λ w (.If c s1 s2 pos) (dIfS tA ts us) := ⟨fun hK => by
  obtain ⟨rc, pc, sc⟩ := hc.ex hK
  obtain ⟨r1, p1, q1⟩ := h1.ex hK
  obtain ⟨r2, p2, q2⟩ := h2.ex hK
  refine ⟨_, ps_if pc p1 p2, fun env W σ H E e S L h => sc env W σ H _ _ _ S L.xok h fun b H' hb S' ev => ?_⟩
  cases b with
  | true => exact q1 env W σ H' E e S' (L.on ev.vis) hb
  | false => exact q2 env W σ H' E e S' (L.on ev.vis) hb⟩
def gN (i : Nat) : DG := fun d env q => q (env.set i (.va d))
theorem wipe_set {σ : L2.St} {i : Nat} {o : Option V} : ∀ {vs : List Nat}, i ∈ vs → wipe (σ.set i o) vs = wipe σ vs
  | [], h => by cases h
  | v :: vs, h => by
    unfold wipe
    by_cases q : i ∈ vs
    · rw [wipe_set q]
    · have e : i = v := by
        rcases List.mem_cons.mp h with e | e
        · exact e
        · exact absurd e q
      subst e
      clear h
      induction vs with
      | nil => simp [wipe]
      | cons u us ih =>
        have n : u ≠ i := fun z => q (by simp [z])
        unfold wipe
        rw [List.set_comm _ _ n, ih fun z => q (List.mem_cons_of_mem _ z), List.set_comm _ _ n]
theorem snd_gN {i : Nat} : SndG Λ (gName i) (gN i) [i] := fun env W σ H d v q Q S r h k =>
  k _ _ h (List.length_set ..) (S.put (i := i) r) (fun vs hv => wipe_set (hv i (by simp)))
theorem xg_name {i : Nat} {y : Str} {p : Pos} (h : PG X (.Name y p) (gName i)) : XG X Λ (.Name y p) (gN i) [i] := ⟨fun _ => ⟨_, h, snd_gN⟩⟩
def gNs : List Nat → List D → List Sl → (List Sl → Prop) → Prop
  | [], [], env, q => q env
  | i :: is, d :: r, env, q => gNs is r (env.set i (.va d)) q
  | _, _, _, _ => False
def gNames : List Nat → TGs
  | [] => gNil
  | i :: is => gCons (gName i) (gNames is)
theorem snd_gNs : ∀ (is : List Nat) {env : List Sl} {W : Ow} {σ : L2.St} {H : Hp} {ds : List D} {vs : List V} {q : List Sl → Prop} {Q : L2.St → Hp → Prop}, StOk Λ env W σ H → RepL Λ.B (Λ.vis W H) ds vs → gNs is ds env q →
    (∀ env' σ', q env' → env'.length = env.length → StOk Λ env' W σ' H → (∀ us : List Nat, (∀ j ∈ is, j ∈ us) → wipe σ' us = wipe σ us) → Q σ' H) → gNames is vs σ H Q
  | [], env, W, σ, H, ds, vs, q, Q, S, r, h, k => by
    cases ds with
    | nil => exact ⟨r, k _ _ h rfl S fun _ _ => rfl⟩
    | cons d ds => exact h.elim
  | i :: is, env, W, σ, H, ds, vs, q, Q, S, r, h, k => by
    cases ds with
    | nil => exact h.elim
    | cons d rs =>
    obtain ⟨v, vr, rfl, r1, r2⟩ := r
    refine ⟨v, vr, rfl, ?_⟩
    refine snd_gNs is (S.put (i := i) r1) r2 h fun env' σ' hq hl S' hp => k env' σ' hq (hl.trans (List.length_set ..)) S' fun us hu => ?_
    rw [hp us fun j hj => hu j (List.mem_cons_of_mem _ hj)]
    exact wipe_set (hu i (by simp))
def gT (is : List Nat) : DG := fun d env q => match d with
  | .tup ds => gNs is ds env q
  | _ => False
theorem gNs_len : ∀ {is : List Nat} {ds : List D} {env : List Sl} {q : List Sl → Prop}, gNs is ds env q → ds.length = is.length
  | [], [], _, _, _ => rfl
  | i :: is, d :: r, _, _, h => by
    have := gNs_len (is := is) (ds := r) h
    simp [this]
structure XGs (X : Cx) (es : List Expr) (is : List Nat) : Prop where
  ex : PGs X es (gNames is)
theorem xgs_nil : XGs X [] [] := ⟨pgs_nil⟩
theorem xgs_cons {i : Nat} {is : List Nat} {y : Str} {p : Pos} (h : PG X (.Name y p) (gName i)) (hs : XGs X es is) (he : (assignEach (.Name y p :: es) X.env).map (·.2) = assign (.Name y p) X.env :: (assignEach es X.env).map (·.2) := by rfl) : XGs X (.Name y p :: es) (i :: is) := ⟨pgs_cons h hs.ex he⟩
theorem xg_tup {is : List Nat} {k n : Nat} (hc : X.calm = true) (h : XGs X es is) (hn : (assignEach es X.env).length = n := by rfl) (hst : (assignEach es X.env).findIdx? (·.1) = none := by rfl) (hl : n = is.length := by rfl) :
    XG X Λ (.Tuple es k pos) (gT is) is := ⟨fun hK => ⟨_, pg_tup hc h.ex hn hst, fun env W σ H d v q Q S r h k => by
  cases d with
  | tup ds =>
    obtain ⟨a, vs, rfl, h1, h2⟩ := r
    refine ⟨a, vs, rfl, by rw [hK]; exact Same_seqT hid_le h1, by rw [h2.len, gNs_len h, hl], snd_gNs is S h2 h k⟩
  | _ => exact h.elim⟩⟩
def dAsg (t : DE) (g : DG) : DS := fun env e => t env (fun d => g d env e.nx) (e.ex env)
theorem snd_asg {r : TE} {g : TG} {f : DG} {js : List Nat} (hr : Snd Λ w r t) (hg : SndG Λ g f js) : SndS Λ w (tAsg r g) (dAsg t f) := fun env W σ H E e S L h =>
  hr env W σ H _ _ _ S L.xok h fun d v H' q S' ev rp => hg env W σ H' d v _ _ S' rp q fun env' σ' q2 _ S2 _ => L.nx env' W σ' H' q2 S2 ev.vis
abbrev dSet (i : Nat) (t : DE) : DS := dAsg t (gN i)
theorem xs_set {i : Nat} {y : Str} {p : Pos} (hN : X.N.Nodup) (hi : X.N[i]? = some y) (hx : Loc X.env.scope y) (he : XE X Λ w a t) (hs : swapsWith a (some (.Name y p)) pos.line X.env = pure false := by rfl) (hf : X.fn y = true ∨ X.env.scope.names.lookup y = some .local := by first | exact .inl rfl | exact .inr rfl | assumption) :
    XS X Λ w (.Assign [.Name y p] a pos) (dSet i t) := ⟨fun hK => by
  obtain ⟨r, pp, s⟩ := he.ex hK
  exact ⟨_, ps_set hN hi hx pp hs hf, snd_asg s snd_gN⟩⟩
def dSetO (i : Nat) (u : DA) : DS := fun env e => u env (fun ds => i < env.length ∧ e.nx (env.set i (.ow ds))) (e.ex env)
theorem snd_setO {r : TE} {u : DA} {i : Nat} (hr : SndL Λ w r u) : SndS Λ w (tAsg r (gName i)) (dSetO i u) := fun env W σ H E e S L h =>
  hr env W σ H _ _ _ S L.xok h fun ds p vs H' q S' ev hp hq rp => by
    obtain ⟨S2, s2⟩ := S.putOwn S' ev hp hq rp q.1
    exact L.nx _ _ _ _ q.2 S2 s2
theorem xs_setO {u : DA} {i : Nat} {y : Str} {p : Pos} (hN : X.N.Nodup) (hi : X.N[i]? = some y) (hx : Loc X.env.scope y) (he : XL X Λ w a u) (hs : swapsWith a (some (.Name y p)) pos.line X.env = pure false := by rfl) (hf : X.fn y = true ∨ X.env.scope.names.lookup y = some .local := by first | exact .inl rfl | exact .inr rfl | assumption) :
    XS X Λ w (.Assign [.Name y p] a pos) (dSetO i u) := ⟨fun hK => by
  obtain ⟨r, pp, s⟩ := he.ex hK
  exact ⟨_, ps_set hN hi hx pp hs hf, snd_setO s⟩⟩
def dPar (i j : Nat) (u : DA) : DS := fun env e => u env (fun ds => match ds with
  | [d1, d2] => e.nx ((env.set i (.va d1)).set j (.va d2))
  | _ => False) (e.ex env)
theorem xs_par {u : DA} {i j : Nat} {x y : Str} {px py pt : Pos} {kt k2 pt2} (hc : X.calm = true) (hN : X.N.Nodup) (hi : X.N[i]? = some x) (hj : X.N[j]? = some y) (hij : i ≠ j)
    (hx : X.env.scope.names.lookup x = some .local) (hy : X.env.scope.names.lookup y = some .local) (ha : XA X Λ w [a, b] u)
    (hw : swappedStores [.Tuple [.Name x px, .Name y py] kt pt] (.Tuple [a, b] k2 pt2) X.env = pure (some [x, y]))
    (hs : swapsWithSole [.Tuple [.Name x px, .Name y py] kt pt] (.Tuple [a, b] k2 pt2) pos.line X.env = pure false := by rfl) :
    XS X Λ w (.Assign [.Tuple [.Name x px, .Name y py] kt pt] (.Tuple [a, b] k2 pt2) pos) (dPar i j u) := ⟨fun hK => by
  obtain ⟨r, p, s⟩ := ha.ex hK
  refine ⟨_, ps_par hc hN hi hj hij hx hy p hw hs, fun env W σ H E e S L h => s env W σ H _ _ _ S L.xok h fun ds vs H' q S' ev rp => ?_⟩
  split at q
  case h_2 => exact q.elim
  rename_i d1 d2
  obtain ⟨v1, vr, rfl, r1, v2, vr2, rfl, r2, r3⟩ := rp
  cases (show vr2 = [] from r3)
  refine ⟨v1, v2, rfl, ?_⟩
  have S2 := S'.put (i := i) r1
  have S3 := S2.put (i := j) r2
  exact L.nx _ _ _ _ q S3 ev.vis⟩
def dFrz (i : Nat) (t : DS) : DS := fun env e => match env[i]? with
  | some (.ow ds) => t (env.set i (.va (.lst ds))) e
  | _ => t env e
theorem snd_frz {i : Nat} {r : TS} (h : SndS Λ w r ts) : SndS Λ w r (dFrz i ts) := fun env W σ H E e S L hh => by
  unfold dFrz at hh
  split at hh
  · rename_i ds hd
    obtain ⟨S2, s2⟩ := S.freeze hd
    exact h _ _ σ H E e S2 (L.on s2) hh
  · exact h env W σ H E e S L hh
theorem xs_frz (i : Nat) (h : XS X Λ w st ts) : XS X Λ w st (dFrz i ts) := ⟨fun hK => by
  obtain ⟨r, p, s⟩ := h.ex hK
  exact ⟨_, p, snd_frz s⟩⟩
theorem own_at {env : List Sl} {W : Ow} {σ : L2.St} {H : Hp} {i : Nat} {ds : List D} (S : StOk Λ env W σ H) (h : env[i]? = some (.ow ds)) :
    ∃ p vs, W i = some p ∧ σ[i]? = some (some (.ref p)) ∧ H p = some (.lst vs) ∧ RepL Λ.B (Λ.vis W H) ds vs ∧ ¬ Λ.M p := S.sl i _ h
theorem mut_own {env : List Sl} {W : Ow} {σ : L2.St} {H : Hp} {i : Nat} {ds ds' : List D} {p : Addr} {vs' : List V} (S : StOk Λ env W σ H) (h : env[i]? = some (.ow ds)) (hw : W i = some p) (hp : H p ≠ none) (hm : ¬ Λ.M p) (hs : σ[i]? = some (some (.ref p))) (r : RepL Λ.B (Λ.vis W H) ds' vs') :
    StOk Λ (env.set i (.ow ds')) W σ (upd H p (.lst vs')) ∧ Same (Λ.vis W H) (Λ.vis W (upd H p (.lst vs'))) := by
  have v1 : Same (Λ.vis W H) (Λ.vis W (upd H p (.lst vs'))) := hid_grow fun a u g ha => ⟨g, by rw [upd_ne (show a ≠ p from fun z => g (.inr (.inr ⟨i, by rw [z]; exact hw⟩)))]; exact ha⟩
  exact S.mut hw (s := .ow ds') ⟨p, vs', hw, hs, upd_same, r.up v1, hm⟩ (List.getElem?_eq_some_iff.mp h).1
def dApp (i : Nat) (t : DE) : DS := fun env e => match env[i]? with
  | some (.ow ds) => t env (fun d => ds.length < 100000 ∧ e.nx (env.set i (.ow (ds ++ [d])))) (e.ex env)
  | _ => False
theorem xs_app {i : Nat} {y : Str} {p1 p2 p3 : Pos} (ho : PE X (.Name y p1) (tVar i)) (he : XE X Λ w a t)
    (hbase : attributeBase (.Name y p1) "append" X.env (eval (.Name y p1) X.env) = eval (.Name y p1) X.env := by rfl)
    (hfew : ((backTo p3 (starEach [a] X.env)).all (fun x => !x.1) && (backToKw p3 (keywordEach [] X.env)).all (fun x => x.1.isSome)
      && decide ([a].length + ([] : List Keyword).length + (if ([] : List Keyword).isEmpty then 0 else 1) < 30)) = true := by rfl)
    (hline : (p2.endLine == p3.line) = true := by rfl) (hs1 : starEach [a] X.env = (false, eval a X.env) :: starEach [] X.env := by rfl) (hplain : (backTo p3 (starEach [] X.env)).any (·.1) = false := by rfl)
    (hs : swapsWith (.Call (.Attribute (.Name y p1) "append" p2) [a] [] p3) none pos.line X.env = pure false := by rfl) :
    XS X Λ w (.Expr (.Call (.Attribute (.Name y p1) "append" p2) [a] [] p3) pos) (dApp i t) := ⟨fun hK => by
  obtain ⟨r, p, s⟩ := he.ex hK
  refine ⟨_, ps_expr (pe_bm PySem.F.plainAttrs_list PySem.F.slot_list_append PySem.F.type_list_append mt_append ho (pa_cons p pa_nil hs1) hbase hfew hline hs1 hplain) hs, fun env W σ H E e S L h => ?_⟩
  unfold dApp at h
  split at h
  · rename_i ds hd
    obtain ⟨l, vs, hw, hσ, hl, rl, hm⟩ := own_at S hd
    refine ⟨_, hσ, .inl ⟨rfl, _, sqL_of hl⟩, s env W σ H _ _ _ S L.xok h fun d v H' q S' ev rp => ?_⟩
    have hl' := ev.own i l _ hw hl
    refine ⟨l, vs, v, rfl, rfl, hl', by rw [rl.len]; exact szl q.1, ?_⟩
    obtain ⟨S2, s2⟩ := mut_own S' hd hw (by rw [hl']; simp) hm hσ ((rl.up ev.vis).app (.one rp))
    exact L.nx _ _ _ _ q.2 S2 (ev.vis.trans s2)
  · exact h.elim⟩
theorem RepL.dropLast {B : Tb} {H : Hp} {ds : List D} {vs : List V} (h : RepL B H ds vs) : RepL B H ds.dropLast vs.dropLast := by
  rw [List.dropLast_eq_take, List.dropLast_eq_take, h.len]
  exact h.take _
def dWhile (c : DT) (b : DS) : DS := fun env e => ∃ P : Nat → List Sl → Prop, (∃ m, P m env) ∧ ∀ m env, P m env → c env (fun k => iteB k
    (b env { e with nx := fun env' => ∃ m', m' < m ∧ P m' env', ct := fun env' => ∃ m', m' < m ∧ P m' env', bk := e.nx }) (e.nx env)) (e.ex env)
theorem xs_while {body : List Stmt} (hp : PassesOwn (model X.prog X.w) X.A X.env X.xe) (hc : XT X Λ w c tA) (hb : XSs X Λ w body ts) : XS X Λ w (.While c body [] pos) (dWhile tA ts) := ⟨fun hK => by
  obtain ⟨rc, pc, sc⟩ := hc.ex hK
  obtain ⟨r1, p1, q1⟩ := hb.ex hK
  refine ⟨_, ps_while hp pc p1, fun env W σ H E e S L h => ?_⟩
  obtain ⟨P, ⟨m0, h0⟩, turn⟩ := h
  refine ⟨fun m σ' H' => ∃ env' W', StOk Λ env' W' σ' H' ∧ Same (Λ.vis W H) (Λ.vis W' H') ∧ P m env', ⟨m0, env, W, S, Same.refl _, h0⟩, ?_⟩
  rintro m σ' H' ⟨env', W', S', s', hm⟩
  refine sc env' W' σ' H' _ _ _ S' (L.on s').xok (turn m env' hm) fun b H1 hb S1 e1 => ?_
  cases b with
  | true =>
    refine ⟨fun σ2 H2 => ∃ m', m' < m ∧ ∃ env2 W2, StOk Λ env2 W2 σ2 H2 ∧ Same (Λ.vis W H) (Λ.vis W2 H2) ∧ P m' env2, fun _ _ z => z, ?_⟩
    have L1 := L.on (s'.trans e1.vis)
    refine q1 env' W' σ' H1 _ { e with nx := fun env' => ∃ m', m' < m ∧ P m' env', ct := fun env' => ∃ m', m' < m ∧ P m' env', bk := e.nx } S1 ⟨fun env2 W2 σ2 H2 a S2 s2 => ?_, fun env2 W2 σ2 H2 a S2 s2 => L1.nx _ _ _ _ a S2 s2, fun env2 W2 σ2 H2 a S2 s2 => ?_, L1.rt, L1.ex⟩ hb
    · obtain ⟨m', lt, hm'⟩ := a
      exact ⟨m', lt, env2, W2, S2, (s'.trans e1.vis).trans s2, hm'⟩
    · obtain ⟨m', lt, hm'⟩ := a
      exact ⟨m', lt, env2, W2, S2, (s'.trans e1.vis).trans s2, hm'⟩
  | false => exact L.nx _ _ _ _ hb S1 (s'.trans e1.vis)⟩
def loopD (g : DG) (b : DS) (e : DEnds) : List D → List Sl → Prop
  | [], env => e.nx env
  | d :: ds, env => g d env fun env' => b env' { e with nx := loopD g b e ds, ct := loopD g b e ds, bk := e.nx }
def dFor (it : DA) (g : DG) (b : DS) : DS := fun env e => it env (fun ds => loopD g b e ds env) (e.ex env)
theorem xs_for {tg iter : Expr} {body : List Stmt} {it : DA} {g : DG} {js : List Nat} (hp : PassesOwn (model X.prog X.w) X.A X.env X.xe) (hc : X.calm = true) (hi : XI X Λ w tg iter it) (hg : XG X Λ tg g js) (hb : XSs X Λ w body ts)
    (hs : ∀ x, foldedSetIterable iter X.env x = pure x := by intro _; rfl) : XS X Λ w (.For tg iter body [] pos) (dFor it g ts) := ⟨fun hK => by
  obtain ⟨ri, pi, si⟩ := hi.ex hK
  obtain ⟨rg, pg, sg⟩ := hg.ex hK
  obtain ⟨rb, pb, sb⟩ := hb.ex hK
  refine ⟨_, ps_for hp hc pi pg pb hs, fun env W σ H E e S L h => si env W σ H _ _ _ S L.xok h fun ds J H1 h1 S1 e1 J1 => ?_⟩
  refine ⟨fun i m σ' H' => m = ds.length - i ∧ i ≤ ds.length ∧ ∃ env' W', StOk Λ env' W' σ' H' ∧ Same (Λ.vis W H1) (Λ.vis W' H') ∧ loopD g ts e (ds.drop i) env', ⟨ds.length, by simp, Nat.zero_le _, env, W, S1, Same.refl _, h1⟩, ?_⟩
  rintro i m σ' H' ⟨rfl, hi, env', W', S', s', hl⟩
  by_cases hlt : i < ds.length
  · refine .inr ⟨J1.go i env' W' σ' H' hlt S' s', fun σ2 H2 => ∃ env2 W2, StOk Λ env2 W2 σ2 H2 ∧ Same (Λ.vis W H1) (Λ.vis W2 H2) ∧ loopD g ts e (ds.drop (i + 1)) env2, fun σ2 H2 ⟨env2, W2, z⟩ => ⟨ds.length - (i + 1), by omega, rfl, hlt, env2, W2, z⟩, fun x H2 y => ?_⟩
    obtain ⟨sm, d, hd, rd⟩ := J1.yld i x env' W' σ' H' H2 hlt S' s' y
    rw [List.drop_eq_getElem_cons hlt] at hl
    have ed : ds[i] = d := by
      rw [List.getElem?_eq_getElem hlt] at hd
      exact Option.some.inj hd
    rw [ed] at hl
    have S2 := S'.grow sm
    have s2 : Same (Λ.vis W H1) (Λ.vis W' H2) := s'.trans (vis_same sm)
    refine sg env' W' σ' H2 d x _ _ S2 rd hl fun env3 σ3 q3 _ S3 _ => ?_
    have s13 := s2
    have L3 := L.on (e1.vis.trans s13)
    exact sb env3 W' σ3 H2 _ { e with nx := loopD g ts e (ds.drop (i + 1)), ct := loopD g ts e (ds.drop (i + 1)), bk := e.nx } S3 ⟨fun env4 W4 σ4 H4 a S4 s4 => ⟨env4, W4, S4, s13.trans s4, a⟩, fun env4 W4 σ4 H4 a S4 s4 => L3.nx _ _ _ _ a S4 s4, fun env4 W4 σ4 H4 a S4 s4 => ⟨env4, W4, S4, s13.trans s4, a⟩, L3.rt, L3.ex⟩ q3
  · have ei : i = ds.length := by omega
    subst ei
    rw [List.drop_length] at hl
    exact .inl ⟨J1.stop env' W' σ' H' S' s', L.nx _ _ _ _ hl S' (e1.vis.trans s')⟩⟩
def wipeE (env : List Sl) : List Nat → List Sl
  | [] => env
  | v :: vs => (wipeE env vs).set v .un
def lcD (g : DG) (t : DT) (u : DE) (env : List Sl) (q : List D → Prop) : List D → List D → Prop
  | [], acc => q acc
  | d :: ds, acc => g d env fun env' => t env' (fun b => iteB b (u env' (fun y => acc.length < 100000 ∧ lcD g t u env q ds (acc ++ [y])) (fun _ => False)) (lcD g t u env q ds acc)) (fun _ => False)
def dLc (it : DA) (g : DG) (t : DT) (u : DE) (vs : List Nat) : DA := fun env q x => it env (fun ds => lcD g t u (wipeE env vs) q ds []) x
theorem wipe_wipe (σ : L2.St) (vs : List Nat) : wipe (wipe σ vs) vs = wipe σ vs := by
  have : ∀ us : List Nat, (∀ u ∈ us, u ∈ vs) → wipe (wipe σ us) vs = wipe σ vs := by
    intro us
    induction us with
    | nil => intro _; rfl
    | cons u us ih =>
      intro h
      show wipe ((wipe σ us).set u none) vs = _
      rw [wipe_set (h u (by simp))]
      exact ih fun z hz => h z (List.mem_cons_of_mem _ hz)
  exact this vs fun _ h => h
theorem StOk.wipe {env : List Sl} {W : Ow} {σ : L2.St} {H : Hp} (S : StOk Λ env W σ H) : ∀ vs : List Nat, StOk Λ (wipeE env vs) W (wipe σ vs) H
  | [] => S
  | v :: vs => (S.wipe vs).forget
theorem wipeE_len (env : List Sl) : ∀ vs, (wipeE env vs).length = env.length
  | [] => rfl
  | v :: vs => by unfold wipeE; rw [List.length_set, wipeE_len env vs]
def w0 : WX := fun _ _ _ _ => False
def dYes : DT := fun _ q _ => q true
theorem xts_nil : XTs X Λ w [] dYes := ⟨fun _ => ⟨_, pts_nil, fun env W σ H Q q x S hx h k => k true H h S .refl⟩⟩
theorem xts_one (h : XT X Λ w c tA) : XTs X Λ w [c] tA := ⟨fun hK => by
  obtain ⟨r, p, s⟩ := h.ex hK
  exact ⟨_, pts_one p, s⟩⟩
theorem snd_lc {wi : TI} {g : TG} {tt : TT} {te : TE} {it : DA} {gd : DG} {td : DT} {ud : DE} {vs js : List Nat} (hi : SndI Λ w wi it) (hg : SndG Λ g gd js) (ht : SndT Λ w0 tt td) (he : Snd Λ w0 te ud) (hjs : ∀ j ∈ js, j ∈ vs) :
    SndL Λ w (tLc wi g tt te vs) (dLc it gd td ud vs) := fun env W σ H Q q x S hx h k => hi env W σ H _ _ x S hx h fun ds J H1 h1 S1 e1 J1 Dl hD => by
  obtain ⟨n0, hn0⟩ := S1.wf
  -- the new list is hidden at a place beyond the slots
  let n := 2 * (n0 + env.length) + 1
  have hns : ¬ Sub n := by unfold Sub; omega
  have hn : W n = none := hn0 n (by omega)
  have hE : env.length ≤ n := by omega
  have up1 : Same H1 (upd H1 Dl (.lst [])) := same_new hD
  obtain ⟨S2, v1, v2⟩ := S1.hide (S1.grow up1) (.of up1) (i := n) (p := Dl) hD (by rw [upd_same]; simp) (.inl ⟨hE, hn⟩)
  have en : env.set n .un = env := List.set_eq_of_length_le hE
  rw [en] at S2
  have hnW : ∀ j, j ≠ n → W j = wput W n (some Dl) j := fun j hj => (wput_ne hj).symm
  have hW2 : wput W n (some Dl) n = some Dl := wput_same rfl
  have sub : ∀ j p, W j = some p → wput W n (some Dl) j = some p := fun j p e => by
    by_cases z : j = n
    · rw [z, hn] at e; cases e
    · rw [wput_ne z]; exact e
  generalize wput W n (some Dl) = W2 at *
  have nm : ¬ Λ.M Dl := fun z => S1.mx _ z hD
  have ww : wipe (wipe σ vs) vs = wipe σ vs := wipe_wipe σ vs
  refine ⟨fun i m H' => m = ds.length - i ∧ i ≤ ds.length ∧ StOk Λ env W2 σ H' ∧ Same (Λ.vis W H1) (Λ.vis W2 H') ∧ (∀ j p o, W j = some p → H1 p = some o → H' p = some o) ∧ (∀ b, H1 b ≠ none → H' b ≠ none) ∧
    ∃ acc vs', H' Dl = some (.lst vs') ∧ RepL Λ.B (Λ.vis W2 H') acc vs' ∧ lcD gd td ud (wipeE env vs) q (ds.drop i) acc, ⟨ds.length, by simp, Nat.zero_le _, S2, v1, fun j p o _ h => up1 _ _ h, fun b h => some_mono up1 h, [], [], upd_same, rfl, h1⟩, ?_⟩
  rintro i m H' ⟨rfl, hi, S', s', own', all', acc, vs', hDl, racc, hl⟩
  by_cases hlt : i < ds.length
  · refine .inr ⟨J1.go i env W2 σ H' hlt S' s', fun H2 => StOk Λ env W2 σ H2 ∧ Same (Λ.vis W H1) (Λ.vis W2 H2) ∧ (∀ j p o, W j = some p → H1 p = some o → H2 p = some o) ∧ (∀ b, H1 b ≠ none → H2 b ≠ none) ∧
      ∃ acc vs', H2 Dl = some (.lst vs') ∧ RepL Λ.B (Λ.vis W2 H2) acc vs' ∧ lcD gd td ud (wipeE env vs) q (ds.drop (i + 1)) acc, fun H2 z => ⟨ds.length - (i + 1), by omega, rfl, hlt, z⟩, fun y H2 hy => ?_⟩
    obtain ⟨sm, d, hd, rd⟩ := J1.yld i y env W2 σ H' H2 hlt S' s' hy
    rw [List.drop_eq_getElem_cons hlt] at hl
    have ed : ds[i] = d := by
      rw [List.getElem?_eq_getElem hlt] at hd
      exact Option.some.inj hd
    rw [ed] at hl
    have Sg := S'.grow sm
    have e0 : Ev Λ W2 H' H2 := .of sm
    refine hg (wipeE env vs) W2 (wipe σ vs) H2 d y _ _ (Sg.wipe vs) rd hl fun env3 σ3 q3 len3 S3 hp3 => ⟨by rw [hp3 vs hjs, ww], ?_⟩
    refine ht env3 W2 σ3 H2 _ _ _ S3 (fun _ _ _ _ z => z.elim) q3 fun b H3 hb S3' e3 => ?_
    have e03 := e0.trans e3
    cases b with
    | true =>
      refine he env3 W2 σ3 H3 _ _ _ S3' (fun _ _ _ _ z => z.elim) hb fun z v4 H4 h4 S4 e4 r4 => ?_
      have e04 := e03.trans e4
      have hD4 := e04.own n Dl _ hW2 hDl
      have S4' : StOk Λ env W2 σ H4 := S'.ev S4 e04
      refine ⟨vs', hD4, by rw [racc.len]; exact szl h4.1, S4'.mutV hW2 hE hns nm, ?_, ?_, ?_, acc ++ [z], vs' ++ [v4], upd_same, ?_, h4.2⟩
      · refine (s'.trans e04.vis).trans (hid_grow fun b u g hb2 => ⟨g, by rw [upd_ne (show b ≠ Dl from fun z => g (.inr (.inr ⟨n, by rw [z]; exact hW2⟩)))]; exact hb2⟩)
      · intro j p o hj hp
        rw [upd_ne (ne_of_none hp hD)]
        exact e04.own j p o (sub j p hj) (own' j p o hj hp)
      · intro b hb2
        by_cases z : b = Dl
        · rw [z, upd_same]; simp
        · rw [upd_ne z]
          exact e04.all b (all' b hb2)
      · have v5 : Same (Λ.vis W2 H4) (Λ.vis W2 (upd H4 Dl (.lst (vs' ++ [v4])))) := hid_grow fun b u g hb2 => ⟨g, by rw [upd_ne (show b ≠ Dl from fun z => g (.inr (.inr ⟨n, by rw [z]; exact hW2⟩)))]; exact hb2⟩
        exact ((racc.up e04.vis).app (.one r4)).up v5
    | false =>
      have S4' : StOk Λ env W2 σ H3 := S'.ev S3' e03
      exact ⟨S4', s'.trans e03.vis, fun j p o hj hp => e03.own j p o (sub j p hj) (own' j p o hj hp), fun b hb2 => e03.all b (all' b hb2), acc, vs', e03.own n Dl _ hW2 hDl, racc.up e03.vis, hb⟩
  · have ei : i = ds.length := by omega
    subst ei
    rw [List.drop_length] at hl
    refine .inl ⟨J1.stop env W2 σ H' S' s', ?_⟩
    have gsub : ∀ b, Λ.G W b → Λ.G W2 b := fun b g => by
      rcases g with z | z | ⟨j, z⟩
      · exact .inl z
      · exact .inr (.inl z)
      · exact .inr (.inr ⟨j, sub j b z⟩)
    have v6 : Same (Λ.vis W2 H') (Λ.vis W H') := hid_anti gsub
    refine k acc Dl vs' H' hl (S'.show_ hE hns hnW hn) (e1.trans ⟨s'.trans v6, own', all'⟩) (e1.free hD) hDl (racc.up fun b o hb2 => ?_)
    obtain ⟨g, hb3⟩ := hid_some.mp hb2
    exact hid_some.mpr ⟨fun z => g (.inr (.inr ⟨n, by rw [z]; exact hW2⟩)), hid_some.mpr ⟨fun z => g (gsub b z), hb3⟩⟩
def teOf (Λ : Lx) (w : WX) (t : DE) : TE := fun σ H Q => ∃ env W q x, StOk Λ env W σ H ∧ XOk Λ w env W σ H x ∧ t env q x ∧ (∀ d v H', q d → StOk Λ env W σ H' → Ev Λ W H H' → Rep Λ.B (Λ.vis W H') d v → Q v H')
def ttOf (Λ : Lx) (w : WX) (t : DT) : TT := fun σ H Q => ∃ env W q x, StOk Λ env W σ H ∧ XOk Λ w env W σ H x ∧ t env q x ∧ (∀ b H', q b → StOk Λ env W σ H' → Ev Λ W H H' → Q b H')
def tgOf (Λ : Lx) (t : DG) (js : List Nat) : TG := fun v σ H Q => ∃ env W d q, StOk Λ env W σ H ∧ Rep Λ.B (Λ.vis W H) d v ∧ t d env q ∧ (∀ env' σ', q env' → env'.length = env.length → StOk Λ env' W σ' H → (∀ vs : List Nat, (∀ j ∈ js, j ∈ vs) → wipe σ' vs = wipe σ vs) → Q σ' H)
theorem snd_teOf : Snd Λ w (teOf Λ w t) t := fun env W σ H Q q x S hx h k => ⟨env, W, q, x, S, hx, h, k⟩
theorem snd_ttOf : SndT Λ w (ttOf Λ w tA) tA := fun env W σ H Q q x S hx h k => ⟨env, W, q, x, S, hx, h, k⟩
theorem snd_tgOf {g : DG} {js : List Nat} : SndG Λ (tgOf Λ g js) g js := fun env W σ H d v q Q S r h k => ⟨env, W, d, q, S, r, h, k⟩
theorem XE.pe (h : XE X Λ w a t) (hK : X.K = Λ.B.K) : PE X a (teOf Λ w t) := by
  obtain ⟨r, p, s⟩ := h.ex hK
  exact ⟨fun pins s' σ H Q I ⟨env, W, q, x, S, hx, hh, k⟩ => p.run pins s' σ H Q I (s env W σ H Q q x S hx hh k)⟩
theorem XTs.pts (h : XTs X Λ w es tA) (hK : X.K = Λ.B.K) : PTs X es (ttOf Λ w tA) := by
  obtain ⟨r, p, s⟩ := h.ex hK
  exact ⟨fun pins s' σ H Q I ⟨env, W, q, x, S, hx, hh, k⟩ => p.run pins s' σ H Q I (s env W σ H Q q x S hx hh k)⟩
theorem XG.pg {g : DG} {js : List Nat} (h : XG X Λ a g js) (hK : X.K = Λ.B.K) : PG X a (tgOf Λ g js) := by
  obtain ⟨r, p, s⟩ := h.ex hK
  exact ⟨fun pins s' σ H v u Q I rv ⟨env, W, d, q, S, rp, hh, k⟩ => p.run pins s' σ H v u Q I rv (s env W σ H d v q Q S rp hh k)⟩
theorem xl_lc {tg iter elt : Expr} {ifs : List Expr} {scope : Scope} {own : List (Str × Nat)} {it : DA} {g : DG} {td : DT} {u : DE} {js : List Nat} (hc : X.calm = true) (hN : X.N.Nodup) (hi : XI X Λ w tg iter it) (ok : BlkOk X.N X.env.scope scope own)
    (hg : ∀ (s : Shared) (H : Hp) (C : Addr) (cl : List (Str × Addr)) (fp : List Addr), XG (X.blk s H scope (compEnvC scope cl C X.env) fp) Λ tg g js)
    (ht : ∀ (s : Shared) (H : Hp) (C : Addr) (cl : List (Str × Addr)) (fp : List Addr), XTs (X.blk s H scope (compEnvC scope cl C X.env) fp) Λ w0 ifs td)
    (he : ∀ (s : Shared) (H : Hp) (C : Addr) (cl : List (Str × Addr)) (fp : List Addr), XE (X.blk s H scope (compEnvC scope cl C X.env) fp) Λ w0 elt u)
    (hjs : ∀ j ∈ js, j ∈ own.map (·.2) := by decide) (hs : ∀ x, foldedSetIterable iter X.env x = pure x := by intro _; rfl) : XL X Λ w (.ListComp elt [⟨tg, iter, ifs, 0⟩] scope pos) (dLc it g td u (own.map (·.2))) := ⟨fun hK => by
  obtain ⟨ri, pi, si⟩ := hi.ex hK
  exact ⟨_, pe_lc hc hN pi ok (fun s H C cl fp => (hg s H C cl fp).pg hK) (fun s H C cl fp => (ht s H C cl fp).pts hK) (fun s H C cl fp => (he s H C cl fp).pe hK) hs, snd_lc si snd_tgOf snd_ttOf snd_teOf hjs⟩⟩
theorem xs_lcX {i : Nat} {y : Str} {py spos : Pos} {tg iter elt : Expr} {ifs : List Expr} {scope : Scope} {own : List (Str × Nat)} {it : DA} {g : DG} {td : DT} {u : DE} {js : List Nat} (hc : X.calm = true) (hN : X.N.Nodup) (hy : X.N[i]? = some y) (hyl : X.env.scope.names.lookup y = some .local)
    (hsw : swapsWith (.ListComp elt [⟨tg, iter, ifs, 0⟩] scope pos) (some (.Name y py)) spos.line X.env = pure true) (hi : XI X Λ w tg iter it) (ok : BlkOk X.N X.env.scope scope own)
    (hg : ∀ (s : Shared) (H : Hp) (C : Addr) (cl : List (Str × Addr)) (fp : List Addr), XG (X.blk s H scope (compEnvC scope cl C X.env) fp) Λ tg g js)
    (ht : ∀ (s : Shared) (H : Hp) (C : Addr) (cl : List (Str × Addr)) (fp : List Addr), XTs (X.blk s H scope (compEnvC scope cl C X.env) fp) Λ w0 ifs td)
    (he : ∀ (s : Shared) (H : Hp) (C : Addr) (cl : List (Str × Addr)) (fp : List Addr), XE (X.blk s H scope (compEnvC scope cl C X.env) fp) Λ w0 elt u)
    (hjs : ∀ j ∈ js, j ∈ own.map (·.2) := by decide) (hs : ∀ x, foldedSetIterable iter X.env x = pure x := by intro _; rfl) (hK : X.K = Λ.B.K) :
    ∃ r : TE, PS X (.Assign [.Name y py] (.ListComp elt [⟨tg, iter, ifs, 0⟩] scope pos) spos) (tAsg r (gName i)) ∧ SndL Λ w r (dLc it g td u (own.map (·.2))) := by
  obtain ⟨ri, pi, si⟩ := hi.ex hK
  exact ⟨_, ps_setLc hc hN hy hyl hsw pi ok (fun s H C cl fp => (hg s H C cl fp).pg hK) (fun s H C cl fp => (ht s H C cl fp).pts hK) (fun s H C cl fp => (he s H C cl fp).pe hK) hs, snd_lc si snd_tgOf snd_ttOf snd_teOf hjs⟩
theorem xs_lcO {i : Nat} {y : Str} {py spos : Pos} {tg iter elt : Expr} {ifs : List Expr} {scope : Scope} {own : List (Str × Nat)} {it : DA} {g : DG} {td : DT} {u : DE} {js : List Nat} (hc : X.calm = true) (hN : X.N.Nodup) (hy : X.N[i]? = some y) (hyl : X.env.scope.names.lookup y = some .local)
    (hsw : swapsWith (.ListComp elt [⟨tg, iter, ifs, 0⟩] scope pos) (some (.Name y py)) spos.line X.env = pure true) (hi : XI X Λ w tg iter it) (ok : BlkOk X.N X.env.scope scope own)
    (hg : ∀ (s : Shared) (H : Hp) (C : Addr) (cl : List (Str × Addr)) (fp : List Addr), XG (X.blk s H scope (compEnvC scope cl C X.env) fp) Λ tg g js)
    (ht : ∀ (s : Shared) (H : Hp) (C : Addr) (cl : List (Str × Addr)) (fp : List Addr), XTs (X.blk s H scope (compEnvC scope cl C X.env) fp) Λ w0 ifs td)
    (he : ∀ (s : Shared) (H : Hp) (C : Addr) (cl : List (Str × Addr)) (fp : List Addr), XE (X.blk s H scope (compEnvC scope cl C X.env) fp) Λ w0 elt u)
    (hjs : ∀ j ∈ js, j ∈ own.map (·.2) := by decide) (hs : ∀ x, foldedSetIterable iter X.env x = pure x := by intro _; rfl) :
    XS X Λ w (.Assign [.Name y py] (.ListComp elt [⟨tg, iter, ifs, 0⟩] scope pos) spos) (dSetO i (dLc it g td u (own.map (·.2)))) := ⟨fun hK => by
  obtain ⟨r, p, s⟩ := xs_lcX (w := w) hc hN hy hyl hsw hi ok hg ht he hjs hs hK
  exact ⟨_, p, snd_setO s⟩⟩
theorem xs_lcV {i : Nat} {y : Str} {py spos : Pos} {tg iter elt : Expr} {ifs : List Expr} {scope : Scope} {own : List (Str × Nat)} {it : DA} {g : DG} {td : DT} {u : DE} {js : List Nat} (hc : X.calm = true) (hN : X.N.Nodup) (hy : X.N[i]? = some y) (hyl : X.env.scope.names.lookup y = some .local)
    (hsw : swapsWith (.ListComp elt [⟨tg, iter, ifs, 0⟩] scope pos) (some (.Name y py)) spos.line X.env = pure true) (hi : XI X Λ w tg iter it) (ok : BlkOk X.N X.env.scope scope own)
    (hg : ∀ (s : Shared) (H : Hp) (C : Addr) (cl : List (Str × Addr)) (fp : List Addr), XG (X.blk s H scope (compEnvC scope cl C X.env) fp) Λ tg g js)
    (ht : ∀ (s : Shared) (H : Hp) (C : Addr) (cl : List (Str × Addr)) (fp : List Addr), XTs (X.blk s H scope (compEnvC scope cl C X.env) fp) Λ w0 ifs td)
    (he : ∀ (s : Shared) (H : Hp) (C : Addr) (cl : List (Str × Addr)) (fp : List Addr), XE (X.blk s H scope (compEnvC scope cl C X.env) fp) Λ w0 elt u)
    (hjs : ∀ j ∈ js, j ∈ own.map (·.2) := by decide) (hs : ∀ x, foldedSetIterable iter X.env x = pure x := by intro _; rfl) :
    XS X Λ w (.Assign [.Name y py] (.ListComp elt [⟨tg, iter, ifs, 0⟩] scope pos) spos) (dSet i (dL (dLc it g td u (own.map (·.2))))) := ⟨fun hK => by
  obtain ⟨r, p, s⟩ := xs_lcX (w := w) hc hN hy hyl hsw hi ok hg ht he hjs hs hK
  exact ⟨_, p, snd_asg s.snd snd_gN⟩⟩
end
end Eb

namespace Eb
open PySem PySem.Spec PyProof.Rows L2
section
variable {X : Cx} {Λ : Lx} {w : WX} {a b c e tg : Expr} {es : List Expr} {ta tb tc t : DE} {tA tB : DT} {pos : Pos}
def dItL (t : DE) : DA := fun env q x => t env (fun d => match d with
  | .lst ds => q ds
  | _ => False) x
def dItT (t : DE) : DA := fun env q x => t env (fun d => match d with
  | .tup ds => q ds
  | _ => False) x
theorem it_list {W : Ow} {H : Hp} {p : Addr} {vs : List V} {ds : List D} (h : Λ.vis W H p = some (.lst vs)) (r : RepL Λ.B (Λ.vis W H) ds vs) : ItOk Λ W H (Itl Λ.B.K p) ds where
  go := fun i env' W' σ' H' hi S s => by
    have h' : H' p = some (.lst vs) := hid_le _ _ (s _ _ h)
    obtain ⟨v, hv, _⟩ := r.get (List.getElem?_eq_getElem hi)
    exact ⟨vs, v, sqL_of h', hv⟩
  stop := fun env' W' σ' H' S s => ⟨vs, sqL_of (hid_le _ _ (s _ _ h)), by rw [r.len]; exact Nat.le_refl _⟩
  yld := fun i x env' W' σ' H' H'' hi S s y => by
    obtain ⟨rfl, y⟩ := y
    have h' : H'' p = some (.lst vs) := hid_le _ _ (s _ _ h)
    obtain ⟨d, hd, rd⟩ := r.geti (y vs (sqL_of h'))
    exact ⟨Same.refl _, d, hd, rd.up s⟩
theorem it_tup {W : Ow} {H : Hp} {p : Addr} {vs : List V} {ds : List D} (h : SqT Λ.B.K (Λ.vis W H) p vs) (r : RepL Λ.B (Λ.vis W H) ds vs) : ItOk Λ W H (Itt Λ.B.K p) ds where
  go := fun i env' W' σ' H' hi S s => by
    obtain ⟨v, hv, _⟩ := r.get (List.getElem?_eq_getElem hi)
    exact ⟨vs, v, Same_seqT hid_le (Same_seqT s h), hv⟩
  stop := fun env' W' σ' H' S s => ⟨vs, Same_seqT hid_le (Same_seqT s h), by rw [r.len]; exact Nat.le_refl _⟩
  yld := fun i x env' W' σ' H' H'' hi S s y => by
    obtain ⟨rfl, y⟩ := y
    obtain ⟨d, hd, rd⟩ := r.geti (y vs (Same_seqT hid_le (Same_seqT s h)))
    exact ⟨Same.refl _, d, hd, rd.up s⟩
theorem xi_list (h : XE X Λ w a t) : XI X Λ w tg a (dItL t) := ⟨fun hK => by
  obtain ⟨r, p, s⟩ := h.ex hK
  refine ⟨_, pi_list p, fun env W σ H R q x S hx hh k => s env W σ H _ _ x S hx hh fun d v H1 h1 S1 e1 r1 => ?_⟩
  cases d with
  | lst ds =>
    obtain ⟨p, vs, rfl, h2, r2⟩ := r1
    rw [hK]
    exact ⟨p, rfl, ⟨vs, sqL_of (hid_le _ _ h2)⟩, k ds _ H1 h1 S1 e1 (it_list h2 r2)⟩
  | _ => exact h1.elim⟩
theorem xi_tup (h : XE X Λ w a t) : XI X Λ w tg a (dItT t) := ⟨fun hK => by
  obtain ⟨r, p, s⟩ := h.ex hK
  refine ⟨_, pi_tup p, fun env W σ H R q x S hx hh k => s env W σ H _ _ x S hx hh fun d v H1 h1 S1 e1 r1 => ?_⟩
  cases d with
  | tup ds =>
    obtain ⟨p, vs, rfl, h2, r2⟩ := r1
    rw [hK]
    exact ⟨p, rfl, ⟨vs, Same_seqT hid_le h2⟩, k ds _ H1 h1 S1 e1 (it_tup h2 r2)⟩
  | _ => exact h1.elim⟩
def rgD (lo : Int) (n : Nat) : List D := (List.range n).map fun (i : Nat) => .int (lo + (i : Int))
theorem rgD_len (lo : Int) (n : Nat) : (rgD lo n).length = n := by simp [rgD]
theorem it_range {W : Ow} {H : Hp} {lo : Int} {n : Nat} : ItOk Λ W H (Itr lo n) (rgD lo n) where
  go := fun i env' W' σ' H' hi S s => by rw [rgD_len] at hi; exact hi
  stop := fun env' W' σ' H' S s => by rw [rgD_len]; exact Nat.le_refl _
  yld := fun i x env' W' σ' H' H'' hi S s y => by
    obtain ⟨rfl, rfl⟩ := y
    rw [rgD_len] at hi
    exact ⟨Same.refl _, .int (lo + i), by simp [rgD, hi], rfl⟩
def dRg1 (u : DA) : DA := fun env q x => u env (fun ds => match ds with
  | [.int j] => (-(2 ^ 62) ≤ j ∧ j < 2 ^ 62) ∧ q (rgD 0 j.toNat)
  | _ => False) x
theorem xi_range1 {u : DA} {p : Pos} (hg : Gl X "range") (hm : X.mg "range" = none) (ha : XA X Λ w [a] u) (hs : starEach [a] X.env = [(false, eval a X.env)] := by rfl) : XI X Λ w tg (.Call (.Name "range" p) [a] [] pos) (dRg1 u) := ⟨fun hK => by
  obtain ⟨r, p, s⟩ := ha.ex hK
  refine ⟨_, pi_range1 hg hm p hs, fun env W σ H R q x S hx hh k => s env W σ H _ _ x S hx hh fun ds vs H1 h1 S1 e1 r1 => ?_⟩
  split at h1
  case h_2 => exact h1.elim
  rename_i j
  obtain ⟨⟨b1, b2⟩, h1⟩ := h1
  obtain ⟨v, r, rfl, rfl, r2⟩ := r1
  cases r2
  exact ⟨j, rfl, b1, b2, k _ _ H1 h1 S1 e1 it_range⟩⟩
def enD (ds : List D) : List D := ds.zipIdx.map fun p => .tup [.int (p.2 : Int), p.1]
theorem enD_len (ds : List D) : (enD ds).length = ds.length := by simp [enD]
theorem enD_get {ds : List D} {i : Nat} {d : D} (h : ds[i]? = some d) : (enD ds)[i]? = some (.tup [.int (i : Int), d]) := by
  simp [enD, h]
theorem new_tup {env : List Sl} {W : Ow} {σ : L2.St} {H : Hp} {T : Addr} {vs : List V} {ds : List D} (S : StOk Λ env W σ H) (hT : H T = none) (r : RepL Λ.B (Λ.vis W H) ds vs) : Rep Λ.B (Λ.vis W (upd H T (.tup vs))) (.tup ds) (.ref T) :=
  ⟨T, vs, rfl, sqT_of (vis_new S hT), r.up (vis_same (same_new hT))⟩
theorem it_enum {W : Ow} {H : Hp} {p : Addr} {vs : List V} {ds : List D} (h : Λ.vis W H p = some (.lst vs)) (r : RepL Λ.B (Λ.vis W H) ds vs) : ItOk Λ W H (Ite Λ.B.K p) (enD ds) where
  go := fun i env' W' σ' H' hi S s => by
    rw [enD_len] at hi
    have h' : H' p = some (.lst vs) := hid_le _ _ (s _ _ h)
    obtain ⟨v, hv, _⟩ := r.get (List.getElem?_eq_getElem hi)
    exact ⟨vs, v, sqL_of h', hv⟩
  stop := fun env' W' σ' H' S s => ⟨vs, sqL_of (hid_le _ _ (s _ _ h)), by rw [r.len, enD_len]; exact Nat.le_refl _⟩
  yld := fun i x env' W' σ' H' H'' hi S s y => by
    obtain ⟨T, z, rfl, hT, rfl, y⟩ := y
    have h' : H' p = some (.lst vs) := hid_le _ _ (s _ _ h)
    obtain ⟨d, hd, rd⟩ := r.geti (y vs (sqL_of h'))
    exact ⟨same_new hT, _, enD_get hd, new_tup S hT ⟨_, _, rfl, rfl, _, _, rfl, rd.up s, rfl⟩⟩
def dEn (f : D → (List D → Prop) → Prop) (t : DE) : DA := fun env q x => t env (fun d => f d fun ds => q (enD ds)) x
def isL : D → (List D → Prop) → Prop
  | .lst ds, q => q ds
  | _, _ => False
theorem xi_enumL {p tpos : Pos} {elts : List Expr} {kk : Nat} (hg : Gl X "enumerate") (hm : X.mg "enumerate" = none) (ha : XE X Λ w a t) (hs : starEach [a] X.env = [(false, eval a X.env)] := by rfl) :
    XI X Λ w (.Tuple elts kk tpos) (.Call (.Name "enumerate" p) [a] [] pos) (dEn isL t) := ⟨fun hK => by
  obtain ⟨r, p, s⟩ := ha.ex hK
  refine ⟨_, pi_enum hg hm (pa_cons p pa_nil hs) hs, fun env W σ H R q x S hx hh k => s env W σ H _ _ x S hx hh fun d v H1 h1 S1 e1 r1 => ?_⟩
  cases d with
  | lst ds =>
    obtain ⟨p, vs, rfl, h2, r2⟩ := r1
    rw [hK]
    exact ⟨p, vs, rfl, sqL_of (hid_le _ _ h2), k _ _ H1 h1 S1 e1 (it_enum h2 r2)⟩
  | _ => exact h1.elim⟩
def zpD (xs ys : List D) : List D := (xs.zip ys).map fun p => .tup [p.1, p.2]
def chD (x : Str) : List D := x.cps.toList.map fun c => .str ⟨#[c]⟩
theorem it_str {W : Ow} {H : Hp} {y : Str} : ItOk Λ W H (Its y) (chD y) where
  go := fun i env' W' σ' H' hi S s => by simp [chD] at hi; exact hi
  stop := fun env' W' σ' H' S s => by simp [chD]; exact Nat.le_refl _
  yld := fun i x env' W' σ' H' H'' hi S s z => by
    obtain ⟨rfl, c, hc, rfl⟩ := z
    refine ⟨Same.refl _, .str ⟨#[c]⟩, ?_, rfl⟩
    simp [chD, hc]
def dItS (t : DE) : DA := fun env q x => t env (fun d => match d with
  | .str y => q (chD y)
  | _ => False) x
theorem xi_str (h : XE X Λ w a t) : XI X Λ w tg a (dItS t) := ⟨fun hK => by
  obtain ⟨r, p, s⟩ := h.ex hK
  refine ⟨_, pi_str p, fun env W σ H R q x S hx hh k => s env W σ H _ _ x S hx hh fun d v H1 h1 S1 e1 r1 => ?_⟩
  cases d with
  | str y => exact ⟨y, r1, k _ _ H1 h1 S1 e1 it_str⟩
  | _ => exact h1.elim⟩
end
end Eb

namespace Eb
open PySem PySem.Spec PyProof.Rows L2
section
variable {X : Cx} {Λ : Lx} {w : WX} {a b c e tg : Expr} {es : List Expr} {ta tb tc t : DE} {tA tB : DT} {pos : Pos}
theorem opE {f : Value → Value → Sem Value} {r r' : R2} (h : OpR X f r) (h' : OpR X f r') : OpR X f (fun x y H Q => r x y H Q ∨ r' x y H Q) := fun pins s σ H x y v u Q I rx ry hh =>
  hh.elim (h pins s σ H x y v u Q I rx ry) (h' pins s σ H x y v u Q I rx ry)
theorem callE {f : Value} {r r' : List V → Hp → VK → Prop} (h : CallR X f r) (h' : CallR X f r') : CallR X f (fun x H Q => r x H Q ∨ r' x H Q) := fun pins s σ H x us Q I rx hh =>
  hh.elim (h pins s σ H x us Q I rx) (h' pins s σ H x us Q I rx)
theorem slE {r r' : V → Option Int → Option Int → Hp → VK → Prop} (h : SlR X r) (h' : SlR X r') : SlR X (fun x l u H Q => r x l u H Q ∨ r' x l u H Q) := fun pins s σ H x v vl vu lo hi sl Q I rx hs pl pu hh =>
  hh.elim (h pins s σ H x v vl vu lo hi sl Q I rx hs pl pu) (h' pins s σ H x v vl vu lo hi sl Q I rx hs pl pu)
theorem rep_lst {W : Ow} {H : Hp} {ds : List D} {v : V} (h : Rep Λ.B (Λ.vis W H) (.lst ds) v) : ∃ p vs, v = .ref p ∧ H p = some (.lst vs) ∧ RepL Λ.B (Λ.vis W H) ds vs := by
  obtain ⟨p, vs, e, h1, h2⟩ := h
  exact ⟨p, vs, e, hid_le _ _ h1, h2⟩
theorem rep_tup {W : Ow} {H : Hp} {ds : List D} {v : V} (h : Rep Λ.B (Λ.vis W H) (.tup ds) v) : ∃ p vs, v = .ref p ∧ SqT Λ.B.K H p vs ∧ RepL Λ.B (Λ.vis W H) ds vs := by
  obtain ⟨p, vs, e, h1, h2⟩ := h
  exact ⟨p, vs, e, Same_seqT hid_le h1, h2⟩
theorem fin_lst {env : List Sl} {W : Ow} {σ : L2.St} {H : Hp} {Q : VK} {q : D → Prop} {ds : List D} {vs : List V} (S : StOk Λ env W σ H) (r : RepL Λ.B (Λ.vis W H) ds vs) (h : q (.lst ds)) (k : ∀ d v H', q d → StOk Λ env W σ H' → Ev Λ W H H' → Rep Λ.B (Λ.vis W H') d v → Q v H') :
    ∀ p, H p = none → Q (.ref p) (upd H p (.lst vs)) := fun p hp => by
  have s := same_new (o := .lst vs) hp
  exact k _ _ _ h (S.grow s) (.of s) ⟨p, vs, rfl, vis_new S hp, r.up (vis_same s)⟩
theorem fin_tup {env : List Sl} {W : Ow} {σ : L2.St} {H : Hp} {Q : VK} {q : D → Prop} {ds : List D} {vs : List V} (S : StOk Λ env W σ H) (r : RepL Λ.B (Λ.vis W H) ds vs) (h : q (.tup ds)) (k : ∀ d v H', q d → StOk Λ env W σ H' → Ev Λ W H H' → Rep Λ.B (Λ.vis W H') d v → Q v H') :
    ∀ p, H p = none → Q (.ref p) (upd H p (.tup vs)) := fun p hp => by
  have s := same_new (o := .tup vs) hp
  exact k _ _ _ h (S.grow s) (.of s) ⟨p, vs, rfl, sqT_of (vis_new S hp), r.up (vis_same s)⟩
def addD : D → D → DK
  | .int i, .int j, q, _ => q (.int (i + j))
  | .int i, .bl j, q, _ => q (.int (i + b2i j))
  | .str i, .str j, q, _ => i.length + j.length ≤ 100000 ∧ q (.str (i ++ j))
  | .lst i, .lst j, q, _ => i.length + j.length ≤ 100000 ∧ q (.lst (i ++ j))
  | .tup i, .tup j, q, _ => i.length + j.length ≤ 100000 ∧ q (.tup (i ++ j))
  | _, _, _, _ => False
def rAddA (K : PySem.W.Frag) : R2 := fun x y H Q => rI0 (fun i j => .int (i + j)) x y H Q ∨ (∃ i k, x = .int i ∧ y = .bl k ∧ Q (.int (i + b2i k)) H) ∨ (∃ i j, x = .str i ∧ y = .str j ∧ i.length + j.length ≤ sizeLine ∧ Q (.str (i ++ j)) H) ∨ rCat x y H Q ∨ rCatA K x y H Q
theorem snd_add : SndR Λ w (rAddA Λ.B.K) addD := fun env W σ H d e v u Q q x S hx r1 r2 h k => by
  cases d <;> cases e <;> first | exact h.elim | skip
  · cases r1; cases r2; exact .inr (.inl ⟨_, _, rfl, rfl, k _ _ H h S .refl rfl⟩)
  · cases r1; cases r2; exact .inl ⟨_, _, rfl, rfl, k _ _ H h S .refl rfl⟩
  · cases r1; cases r2; exact .inr (.inr (.inl ⟨_, _, rfl, rfl, sz h.1, k _ _ H h.2 S .refl rfl⟩))
  · obtain ⟨p, vs, rfl, h1, r1⟩ := rep_lst r1
    obtain ⟨p', vs', rfl, h2, r2⟩ := rep_lst r2
    exact .inr (.inr (.inr (.inl ⟨p, p', vs, vs', rfl, rfl, h1, h2, by rw [r1.len, r2.len]; exact sz h.1, fin_lst S (r1.app r2) h.2 k⟩)))
  · obtain ⟨p, vs, rfl, h1, r1'⟩ := rep_tup r1
    obtain ⟨p', vs', rfl, h2, r2'⟩ := rep_tup r2
    refine .inr (.inr (.inr (.inr ⟨p, p', vs, vs', rfl, rfl, h1, h2, by rw [r1'.len, r2'.len]; exact sz h.1, fun z => ?_, fun z z2 => ?_, fun z z2 => fin_tup S (r1'.app r2') h.2 k⟩)))
    · rename_i xs ys
      have e0 : xs = [] := by
        have := r1'.len
        rw [z] at this
        exact List.length_eq_zero_iff.mp this.symm
      have h2 := h.2
      rw [e0, List.nil_append] at h2
      exact k _ _ H h2 S .refl r2
    · rename_i xs ys
      have e0 : ys = [] := by
        have := r2'.len
        rw [z2] at this
        exact List.length_eq_zero_iff.mp this.symm
      have h2 := h.2
      rw [e0, List.append_nil] at h2
      exact k _ _ H h2 S .refl r1
theorem op_addA : OpR X (binaryOp .Add) (rAddA X.K) := opE op_add (opE op_add_ib (opE op_add_str (opE op_cat op_catA)))
theorem xe_add (ha : XE X Λ w a ta) (hb : XE X Λ w b tb) : XE X Λ w (.BinOp a .Add b pos) (dOp addD ta tb) := xe_op (fun hK => hK ▸ op_addA) snd_add ha hb
def intD0 (g : Int → Int → D) : D → D → DK := fun d e q _ => match d, e with
  | .int i, .int j => q (g i j)
  | _, _ => False
theorem snd_int0 {g : Int → Int → V} {g' : Int → Int → D} (hg : ∀ i j H, Rep Λ.B H (g' i j) (g i j)) : SndR Λ w (rI0 g) (intD0 g') := fun env W σ H d e v u Q q x S hx r1 r2 h k => by
  cases d <;> cases e <;> first | exact h.elim | skip
  cases r1; cases r2
  exact ⟨_, _, rfl, rfl, k _ _ H h S .refl (hg _ _ _)⟩
def subD : D → D → DK := intD0 fun i j => .int (i - j)
theorem xe_sub (ha : XE X Λ w a ta) (hb : XE X Λ w b tb) : XE X Λ w (.BinOp a .Sub b pos) (dOp subD ta tb) := xe_op (fun _ => op_sub) (snd_int0 fun _ _ _ => rfl) ha hb
def ltD : D → D → DK := intD0 fun i j => .bl (decide (i < j))
def leD : D → D → DK := intD0 fun i j => .bl (decide (i ≤ j))
def gtD : D → D → DK := intD0 fun i j => .bl (decide (i > j))
def geD : D → D → DK := intD0 fun i j => .bl (decide (i ≥ j))
theorem snd_lt : SndR Λ w (rI0 fun i j => .bl (decide (i < j))) ltD := snd_int0 fun _ _ _ => rfl
theorem snd_le : SndR Λ w (rI0 fun i j => .bl (decide (i ≤ j))) leD := snd_int0 fun _ _ _ => rfl
theorem snd_gt : SndR Λ w (rI0 fun i j => .bl (decide (i > j))) gtD := snd_int0 fun _ _ _ => rfl
theorem snd_ge : SndR Λ w (rI0 fun i j => .bl (decide (i ≥ j))) geD := snd_int0 fun _ _ _ => rfl
mutual
def D.py : D → Option PyData
  | .non => some .none
  | .bl b => some (.bool b)
  | .int i => some (.int i)
  | .str x => some (.str x)
  | .lst ds => match D.pys ds with
    | some xs => some (.list xs)
    | none => none
  | .tup ds => match D.pys ds with
    | some xs => some (.tuple xs)
    | none => none
  | _ => none
def D.pys : List D → Option (List PyData)
  | [] => some []
  | d :: ds => match D.py d, D.pys ds with
    | some x, some xs => some (x :: xs)
    | _, _ => none
end
mutual
theorem Rep.dp {B : Tb} {H : Hp} : ∀ (d : D) (v : V) (x : PyData), Rep B H d v → d.py = some x → Dp B.K H v x
  | .non, _, _, r, e => by cases r; cases e; exact .non
  | .bl _, _, _, r, e => by cases r; cases e; exact .bl _
  | .int _, _, _, r, e => by cases r; cases e; exact .int _
  | .str _, _, _, r, e => by cases r; cases e; exact .str _
  | .lst ds, _, x, ⟨a, vs, ev, h, r⟩, e => by
    subst ev
    unfold D.py at e
    split at e
    · rename_i xs hx
      cases e
      exact .lst (sqL_of h) (RepL.dp ds vs xs r hx)
    · cases e
  | .tup ds, _, x, ⟨a, vs, ev, h, r⟩, e => by
    subst ev
    unfold D.py at e
    split at e
    · rename_i xs hx
      cases e
      exact .tup h (RepL.dp ds vs xs r hx)
    · cases e
  | .ty _, _, _, _, e => by simp [D.py] at e
  | .cl _, _, _, _, e => by simp [D.py] at e
  | .obj _ _, _, _, _, e => by simp [D.py] at e
  | .dic _ _, _, _, _, e => by simp [D.py] at e
theorem RepL.dp {B : Tb} {H : Hp} : ∀ (ds : List D) (vs : List V) (xs : List PyData), RepL B H ds vs → D.pys ds = some xs → DpAll B.K H vs xs
  | [], _, _, r, e => by
    cases (show _ = [] from r)
    simp [D.pys] at e
    subst e
    exact .nil
  | d :: ds, _, xs, ⟨v, r, ev, h1, h2⟩, e => by
    subst ev
    unfold D.pys at e
    split at e
    · rename_i x xs' hx hxs
      cases e
      exact .cons (Rep.dp d v x h1 hx) (RepL.dp ds r xs' h2 hxs)
    · cases e
end
@[irreducible] def eqP (d e : D) (q : Bool → Prop) : Prop := ∃ x y, d.py = some x ∧ e.py = some y ∧ SeqAt.shaped x = true ∧ SeqAt.shaped y = true ∧ q (PyData.eqv x y)
def eqB : D → D → (Bool → Prop) → Prop
  | .int i, .int j, q => q (i == j)
  | .bl i, .bl j, q => q (i == j)
  | .str i, .str j, q => q (i == j)
  | d, e, q => eqP d e q
theorem eqB_py {d e : D} {q : Bool → Prop} (h : eqB d e q) : (∃ x y : V, (∀ B H v, Rep B H d v → v = x) ∧ (∀ B H v, Rep B H e v → v = y) ∧ scal x y = true ∧ q (decide (x = y))) ∨ ∃ x y, d.py = some x ∧ e.py = some y ∧ SeqAt.shaped x = true ∧ SeqAt.shaped y = true ∧ q (PyData.eqv x y) := by
  unfold eqB at h
  split at h
  · rename_i i j
    refine .inl ⟨.int i, .int j, fun _ _ _ r => r, fun _ _ _ r => r, rfl, ?_⟩
    rw [dec_int]
    exact h
  · rename_i i j
    refine .inl ⟨.bl i, .bl j, fun _ _ _ r => r, fun _ _ _ r => r, rfl, ?_⟩
    rw [dec_bl]
    exact h
  · rename_i i j
    refine .inl ⟨.str i, .str j, fun _ _ _ r => r, fun _ _ _ r => r, rfl, ?_⟩
    have e : decide (V.str i = V.str j) = (i == j) := by
      rw [Bool.eq_iff_iff]
      simp
    rw [e]
    exact h
  · unfold eqP at h
    exact .inr h
def eqD : D → D → DK := fun d e q _ => eqB d e fun b => q (.bl b)
def neD : D → D → DK := fun d e q _ => eqB d e fun b => q (.bl (!b))
theorem snd_eq : SndR Λ w (fun x y H Q => rEq x y H Q ∨ rEqD Λ.B.K x y H Q) eqD := fun env W σ H d e v u Q q x S hx r1 r2 h k => by
  rcases eqB_py h with ⟨x, y, h1, h2, h3, h4⟩ | ⟨x, y, h1, h2, h3, h4, h5⟩
  · cases h1 _ _ _ r1
    cases h2 _ _ _ r2
    exact .inl ⟨h3, k _ _ H h4 S .refl rfl⟩
  · exact .inr ⟨x, y, (r1.up hid_le).dp _ _ _ h1, (r2.up hid_le).dp _ _ _ h2, h3, h4, k _ _ H h5 S .refl rfl⟩
theorem snd_ne : SndR Λ w (fun x y H Q => rNe x y H Q ∨ rNeD Λ.B.K x y H Q) neD := fun env W σ H d e v u Q q x S hx r1 r2 h k => by
  rcases eqB_py h with ⟨x, y, h1, h2, h3, h4⟩ | ⟨x, y, h1, h2, h3, h4, h5⟩
  · cases h1 _ _ _ r1
    cases h2 _ _ _ r2
    exact .inl ⟨h3, k _ _ H h4 S .refl rfl⟩
  · exact .inr ⟨x, y, (r1.up hid_le).dp _ _ _ h1, (r2.up hid_le).dp _ _ _ h2, h3, h4, k _ _ H h5 S .refl rfl⟩
theorem ho_eq (hu : X.A.units + 64 < cLine) : X.K = Λ.B.K → OpR X (compareOp .Eq) (fun x y H Q => rEq x y H Q ∨ rEqD Λ.B.K x y H Q) := fun hK => hK ▸ opE op_eq (op_eqD hu)
theorem ho_ne (hu : X.A.units + 64 < cLine) : X.K = Λ.B.K → OpR X (compareOp .NotEq) (fun x y H Q => rNe x y H Q ∨ rNeD Λ.B.K x y H Q) := fun hK => hK ▸ opE op_ne (op_neD hu)
def D.isNon : D → Bool
  | .non => true
  | _ => false
theorem rep_non {B : Tb} {H : Hp} {d : D} {v : V} (r : Rep B H d v) : decide (v = .non) = d.isNon := by
  cases d <;> first | (obtain ⟨_, _, rfl, _⟩ := r; rfl) | (obtain ⟨_, _, _, rfl, _⟩ := r; rfl) | (cases r; rfl)
def isND : D → D → DK := fun d e q _ => match e with
  | .non => q (.bl d.isNon)
  | _ => False
theorem snd_isN : SndR Λ w (fun x y H Q => y = .non ∧ Q (.bl (decide (x = .non))) H) isND := fun env W σ H d e v u Q q x S hx r1 r2 h k => by
  cases e <;> first | exact h.elim | skip
  cases r2
  exact ⟨rfl, by rw [rep_non r1]; exact k _ _ H h S .refl rfl⟩
def D.flat : D → Option V
  | .non => some .non
  | .bl b => some (.bl b)
  | .int i => some (.int i)
  | .str x => some (.str x)
  | _ => none
theorem Rep.flat {B : Tb} {H : Hp} {d : D} {v u : V} (r : Rep B H d v) (h : d.flat = some u) : v = u ∧ flatV v = true := by
  cases d <;> first | (cases h; cases r; exact ⟨rfl, rfl⟩) | (simp [D.flat] at h)
theorem RepL.flat {B : Tb} {H : Hp} : ∀ {ds : List D} {vs us : List V}, RepL B H ds vs → ds.mapM D.flat = some us → vs = us ∧ vs.all flatV = true
  | [], _, _, r, h => by
    cases (show _ = [] from r)
    simp at h
    subst h
    exact ⟨rfl, rfl⟩
  | d :: ds, _, us, ⟨v, r, ev, h1, h2⟩, h => by
    subst ev
    rw [List.mapM_cons] at h
    cases q1 : d.flat with
    | none => rw [q1] at h; cases h
    | some z =>
      rw [q1] at h
      cases q2 : ds.mapM D.flat with
      | none => rw [q2] at h; cases h
      | some zs =>
        rw [q2] at h
        cases h
        obtain ⟨e1, f1⟩ := h1.flat q1
        obtain ⟨e2, f2⟩ := RepL.flat h2 q2
        subst e1 e2
        exact ⟨rfl, by rw [List.all_cons, f1, f2]; rfl⟩
@[irreducible] def inD (neg : Bool) : D → D → DK := fun d e q _ => match e with
  | .lst ds => ∃ z zs, d.flat = some z ∧ ds.mapM D.flat = some zs ∧ q (.bl (if neg then !inV z zs else inV z zs))
  | .tup ds => ∃ z zs, d.flat = some z ∧ ds.mapM D.flat = some zs ∧ q (.bl (if neg then !inV z zs else inV z zs))
  | _ => False
theorem snd_in {neg : Bool} : SndR Λ w (rIn Λ.B.K neg) (inD neg) := fun env W σ H d e v u Q q x S hx r1 r2 h k => by
  unfold inD at h
  cases e <;> first | exact h.elim | skip
  · obtain ⟨z, zs, h1, h2, h3⟩ := h
    obtain ⟨p, vs, rfl, h4, r2⟩ := rep_lst r2
    obtain ⟨e1, f1⟩ := r1.flat h1
    obtain ⟨e2, f2⟩ := r2.flat h2
    subst e1 e2
    exact ⟨p, _, rfl, .inl (sqL_of h4), f1, f2, k _ _ H h3 S .refl rfl⟩
  · obtain ⟨z, zs, h1, h2, h3⟩ := h
    obtain ⟨p, vs, rfl, h4, r2⟩ := rep_tup r2
    obtain ⟨e1, f1⟩ := r1.flat h1
    obtain ⟨e2, f2⟩ := r2.flat h2
    subst e1 e2
    exact ⟨p, _, rfl, .inr h4, f1, f2, k _ _ H h3 S .refl rfl⟩
theorem ho_in : X.K = Λ.B.K → OpR X (compareOp .In) (rIn Λ.B.K false) := fun hK => hK ▸ op_in_seq
theorem ho_notin : X.K = Λ.B.K → OpR X (compareOp .NotIn) (rIn Λ.B.K true) := fun hK => hK ▸ op_notIn_seq
def ixD : D → D → DK := fun d e q _ => match d, e with
  | .lst ds, .int i => ∃ z, atI ds i = some z ∧ q z
  | .tup ds, .int i => ∃ z, atI ds i = some z ∧ q z
  | .str y, .int i => y.length ≤ 100000 ∧ ∃ c, atI y.cps.toList i = some c ∧ q (.str ⟨#[c]⟩)
  | _, _ => False
theorem RepL.atI {B : Tb} {H : Hp} {ds : List D} {vs : List V} {i : Int} {d : D} (r : RepL B H ds vs) (h : L2.atI ds i = some d) : ∃ v, L2.atI vs i = some v ∧ Rep B H d v := by
  unfold L2.atI at h ⊢
  rw [r.len]
  cases q : ixN ds.length i with
  | none => rw [q] at h; cases h
  | some j =>
    rw [q] at h
    exact r.get h
theorem snd_ix : SndR Λ w (rIx Λ.B.K) ixD := fun env W σ H d e v u Q q x S hx r1 r2 h k => by
  cases d <;> cases e <;> first | exact h.elim | skip
  · cases r1; cases r2
    obtain ⟨h0, c, h1, h2⟩ := h
    exact .inr (.inr ⟨_, _, c, rfl, rfl, sz h0, h1, k _ _ H h2 S .refl rfl⟩)
  · cases r2
    obtain ⟨z, h1, h2⟩ := h
    obtain ⟨p, vs, rfl, h4, r1⟩ := rep_lst r1
    obtain ⟨v, hv, rv⟩ := r1.atI h1
    exact .inl ⟨p, vs, _, v, rfl, rfl, sqL_of h4, hv, k _ _ H h2 S .refl rv⟩
  · cases r2
    obtain ⟨z, h1, h2⟩ := h
    obtain ⟨p, vs, rfl, h4, r1⟩ := rep_tup r1
    obtain ⟨v, hv, rv⟩ := r1.atI h1
    exact .inr (.inl ⟨p, vs, _, v, rfl, rfl, h4, hv, k _ _ H h2 S .refl rv⟩)
theorem ix_any : IxR X (rIx X.K) := fun value slice pins s σ H x y v u Q I rx ry h hs => by
  rcases h with h | h | h
  · exact ix_list value slice pins s σ H x y v u Q I rx ry h hs
  · exact ix_tup value slice pins s σ H x y v u Q I rx ry h hs
  · exact ix_str value slice pins s σ H x y v u Q I rx ry h hs
theorem xe_ix (ha : XE X Λ w a ta) (hb : XE X Λ w b tb) (hs : PlainIx b := by exact fun _ _ => rfl) : XE X Λ w (.Subscript a b pos) (dOp ixD ta tb) := ⟨fun hK => by
  obtain ⟨ra, pa, sa⟩ := ha.ex hK
  obtain ⟨rb, pb, sb⟩ := hb.ex hK
  exact ⟨_, pe_ix ix_any pa pb hs, by rw [hK]; exact snd_op snd_ix sa sb⟩⟩
abbrev DO := List Sl → (Option Int → Prop) → (DX → Prop) → Prop
def SndO (Λ : Lx) (w : WX) (to : TO) (t : DO) : Prop := ∀ env W σ H (Q : Option Int → Hp → Prop) q x, StOk Λ env W σ H → XOk Λ w env W σ H x → t env q x → (∀ o H', q o → StOk Λ env W σ H' → Ev Λ W H H' → Q o H') → to σ H Q
structure XO (X : Cx) (Λ : Lx) (w : WX) (e : Option Expr) (t : DO) : Prop where
  ex : X.K = Λ.B.K → ∃ te, PO X e te ∧ SndO Λ w te t
def dNoPart : DO := fun _ q _ => q none
def dPart (t : DE) : DO := fun env q x => t env (fun d => match d with
  | .int i => q (some i)
  | _ => False) x
theorem xo_none : XO X Λ w none dNoPart := ⟨fun _ => ⟨_, po_none, fun env W σ H Q q x S hx h k => k none H h S .refl⟩⟩
theorem xo_some (h : XE X Λ w a t) : XO X Λ w (some a) (dPart t) := ⟨fun hK => by
  obtain ⟨r, p, s⟩ := h.ex hK
  refine ⟨_, po_some p, fun env W σ H Q q x S hx h k => s env W σ H _ _ x S hx h fun d v H1 h1 S1 e1 r1 => ?_⟩
  cases d <;> first | exact h1.elim | skip
  exact ⟨_, r1, k _ H1 h1 S1 e1⟩⟩
def cutL {α : Type} (xs : List α) (lo hi : Option Int) : List α := (xs.drop (HT.sIx xs.length 0 lo)).take (HT.sIx xs.length xs.length hi - HT.sIx xs.length 0 lo)
theorem RepL.cut {B : Tb} {H : Hp} {ds : List D} {vs : List V} (r : RepL B H ds vs) (lo hi : Option Int) : RepL B H (cutL ds lo hi) (cutV vs lo hi) := by
  unfold cutL cutV
  rw [r.len]
  exact (r.drop _).take _
def slD : D → Option Int → Option Int → (D → Prop) → Prop := fun d lo hi q => match d with
  | .lst ds => q (.lst (cutL ds lo hi))
  | .tup ds => q (.tup (cutL ds lo hi))
  | _ => False
def dSl (t : DE) (l h : DO) : DE := fun env q x => t env (fun d => l env (fun lo => h env (fun hi => slD d lo hi q) x) x) x
theorem cut_all {α : Type} {xs : List α} {lo hi : Option Int} (h : HT.sIx xs.length 0 lo = 0 ∧ HT.sIx xs.length xs.length hi = xs.length) : cutL xs lo hi = xs := by
  unfold cutL
  rw [h.1, h.2]
  simp
theorem xe_slice {lo hi : Option Expr} {p2 : Pos} {tl th : DO} (ha : XE X Λ w a t) (hl : XO X Λ w lo tl) (hh : XO X Λ w hi th) : XE X Λ w (.Subscript a (.Slice lo hi none p2) pos) (dSl t tl th) := ⟨fun hK => by
  obtain ⟨ra, pa, sa⟩ := ha.ex hK
  obtain ⟨rl, pl, sl⟩ := hl.ex hK
  obtain ⟨rh, ph, sh⟩ := hh.ex hK
  refine ⟨_, pe_slice (slE sl_list sl_tupA) pa pl ph, fun env W σ H Q q x S hx h k => sa env W σ H _ _ x S hx h fun d v H1 h1 S1 e1 r1 => sl env W σ H1 _ _ x S1 (hx.on e1) h1 fun lo H2 h2 S2 e2 => sh env W σ H2 _ _ x S2 (hx.on (e1.trans e2)) h2 fun hi H3 h3 S3 e3 => ?_⟩
  have r3 := r1.up (e2.trans e3).vis
  have k3 : ∀ d v H', q d → StOk Λ env W σ H' → Ev Λ W H3 H' → Rep Λ.B (Λ.vis W H') d v → Q v H' := fun d v H' a b c => k d v H' a b (((e1.trans e2).trans e3).trans c)
  rw [hK]
  cases d <;> first | exact h3.elim | skip
  · obtain ⟨p, vs, rfl, h4, r4⟩ := rep_lst r3
    exact .inl ⟨p, vs, rfl, sqL_of h4, fin_lst S3 (r4.cut lo hi) h3 k3⟩
  · obtain ⟨p, vs, rfl, h4, r4⟩ := rep_tup r3
    refine .inr ⟨p, vs, rfl, h4, fun z => ?_, fun z => fin_tup S3 (r4.cut lo hi) h3 k3⟩
    rw [r4.len] at z
    have h3' : q (.tup (cutL _ lo hi)) := h3
    rw [cut_all z] at h3'
    exact k3 _ _ H3 h3' S3 .refl r3⟩
def dCB (f : List D → DK) (u : DA) : DE := fun env q x => u env (fun ds => f ds q x) x
theorem snd_cb {r : List V → Hp → VK → Prop} {f : List D → DK} {ra : TA} {u : DA} (hr : SndC Λ w r f) (ha : SndA Λ w ra u) : Snd Λ w (tCB r ra) (dCB f u) := fun env W σ H Q q x S hx h k =>
  ha env W σ H _ _ x S hx h fun ds vs H1 h1 S1 e1 r1 => hr env W σ H1 ds vs Q q x S1 (hx.on e1) r1 h1 fun d3 v3 H3 h3 S3 e3 r3 => k d3 v3 H3 h3 S3 (e1.trans e3) r3
theorem xe_callB {id : String} {y : Str} {p : Pos} {r : List V → Hp → VK → Prop} {f : List D → DK} {u : DA} (hc : X.K = Λ.B.K → CallR X (.builtin id) r) (hr : SndC Λ w r f) (hg : Gl X y) (hm : X.mg y = none) (hv : bootBuiltins y = some (.builtin id)) (ha : XA X Λ w (e :: es) u) (hn : y ≠ "__name__" := by decide) (hdb : (y == ("__debug__" : Str)) = false := by decide)
    (he : starEach (e :: es) X.env = (false, eval e X.env) :: starEach es X.env := by rfl) (hpl : (backTo pos (starEach es X.env)).any (·.1) = false := by rfl) : XE X Λ w (.Call (.Name y p) (e :: es) [] pos) (dCB f u) := ⟨fun hK => by
  obtain ⟨ra, pa, sa⟩ := ha.ex hK
  exact ⟨_, pe_callB (hc hK) hg hm hv pa hn hdb he hpl, snd_cb hr sa⟩⟩
theorem xe_callTy {id : String} {y : Str} {p : Pos} {r : List V → Hp → VK → Prop} {f : List D → DK} {u : DA} (hc : X.K = Λ.B.K → CallR X (.type id) r) (hr : SndC Λ w r f) (hg : Gl X y) (hm : X.mg y = none) (hv : bootBuiltins y = some (.type id)) (ha : XA X Λ w (e :: es) u) (hn : y ≠ "__name__" := by decide) (hdb : (y == ("__debug__" : Str)) = false := by decide)
    (he : starEach (e :: es) X.env = (false, eval e X.env) :: starEach es X.env := by rfl) (hpl : (backTo pos (starEach es X.env)).any (·.1) = false := by rfl) : XE X Λ w (.Call (.Name y p) (e :: es) [] pos) (dCB f u) := ⟨fun hK => by
  obtain ⟨ra, pa, sa⟩ := ha.ex hK
  exact ⟨_, pe_callTy (hc hK) hg hm hv pa hn hdb he hpl, snd_cb hr sa⟩⟩
theorem RepL.one_inv {B : Tb} {H : Hp} {d : D} {vs : List V} (r : RepL B H [d] vs) : ∃ v, vs = [v] ∧ Rep B H d v := by
  obtain ⟨v, r', rfl, h1, h2⟩ := r
  cases (show r' = [] from h2)
  exact ⟨v, rfl, h1⟩
def lenD : List D → DK := fun ds q _ => match ds with
  | [.lst xs] => q (.int xs.length)
  | [.tup xs] => q (.int xs.length)
  | [.str y] => y.length ≤ 100000 ∧ q (.int y.length)
  | _ => False
theorem snd_len : SndC Λ w (fun xs H Q => (∃ p ys, xs = [.ref p] ∧ (SqL Λ.B.K H p ys ∨ SqT Λ.B.K H p ys) ∧ Q (.int ys.length) H) ∨ ∃ z, xs = [.str z] ∧ z.length ≤ sizeLine ∧ Q (.int z.length) H) lenD := fun env W σ H ds vs Q q x S hx r h k => by
  unfold lenD at h
  split at h
  · obtain ⟨v, rfl, r1⟩ := r.one_inv
    obtain ⟨p, vs, rfl, h4, r4⟩ := rep_lst r1
    exact .inl ⟨p, vs, rfl, .inl (sqL_of h4), by rw [r4.len]; exact k _ _ H h S .refl rfl⟩
  · obtain ⟨v, rfl, r1⟩ := r.one_inv
    obtain ⟨p, vs, rfl, h4, r4⟩ := rep_tup r1
    exact .inl ⟨p, vs, rfl, .inr h4, by rw [r4.len]; exact k _ _ H h S .refl rfl⟩
  · obtain ⟨v, rfl, r1⟩ := r.one_inv
    cases r1
    exact .inr ⟨_, rfl, sz h.1, k _ _ H h.2 S .refl rfl⟩
  · exact h.elim
theorem hc_len : X.K = Λ.B.K → CallR X (.builtin "len") (fun xs H Q => (∃ p ys, xs = [.ref p] ∧ (SqL Λ.B.K H p ys ∨ SqT Λ.B.K H p ys) ∧ Q (.int ys.length) H) ∨ ∃ z, xs = [.str z] ∧ z.length ≤ sizeLine ∧ Q (.int z.length) H) := fun hK => hK ▸ callE call_len_seq call_len_str
def int1D : List D → DK := fun ds q _ => match ds with
  | [.int i] => q (.int i)
  | [.bl k] => q (.int (if k then 1 else 0))
  | _ => False
theorem snd_int1 : SndC Λ w (fun xs H Q => (∃ i, xs = [.int i] ∧ Q (.int i) H) ∨ ∃ k, xs = [.bl k] ∧ Q (.int (if k then 1 else 0)) H) int1D := fun env W σ H ds vs Q q x S hx r h k => by
  unfold int1D at h
  split at h
  · obtain ⟨v, rfl, r1⟩ := r.one_inv
    cases r1
    exact .inl ⟨_, rfl, k _ _ H h S .refl rfl⟩
  · obtain ⟨v, rfl, r1⟩ := r.one_inv
    cases r1
    exact .inr ⟨_, rfl, k _ _ H h S .refl rfl⟩
  · exact h.elim
def strD : List D → DK := fun ds q _ => match ds with
  | [.int i] => i.natAbs.log2 < 1920 ∧ q (.str (toString i))
  | [.str y] => q (.str y)
  | _ => False
theorem snd_str : SndC Λ w (fun xs H Q => (∃ i, xs = [.int i] ∧ i.natAbs.log2 < 1920 ∧ Q (.str (toString i)) H) ∨ ∃ a, xs = [.str a] ∧ Q (.str a) H) strD := fun env W σ H ds vs Q q x S hx r h k => by
  unfold strD at h
  split at h
  · obtain ⟨v, rfl, r1⟩ := r.one_inv
    cases r1
    exact .inl ⟨_, rfl, h.1, k _ _ H h.2 S .refl rfl⟩
  · obtain ⟨v, rfl, r1⟩ := r.one_inv
    cases r1
    exact .inr ⟨_, rfl, k _ _ H h S .refl rfl⟩
  · exact h.elim
def sumD : List D → DK := fun ds q _ => ∃ ns : List Int, (ds = [.lst (ns.map .int)] ∨ ds = [.tup (ns.map .int)]) ∧ q (.int ns.sum)
theorem snd_sum : SndC Λ w (fun vs H Q => rSum Λ.B.K vs H Q ∨ rSumT Λ.B.K vs H Q) sumD := fun env W σ H ds vs Q q x S hx r h k => by
  obtain ⟨ns, e | e, h⟩ := h
  · subst e
    obtain ⟨v, rfl, r1⟩ := r.one_inv
    obtain ⟨p, vs, rfl, h4, r4⟩ := rep_lst r1
    cases r4.ints
    exact .inl ⟨p, ns, rfl, sqL_of h4, k _ _ H h S .refl rfl⟩
  · subst e
    obtain ⟨v, rfl, r1⟩ := r.one_inv
    obtain ⟨p, vs, rfl, h4, r4⟩ := rep_tup r1
    cases r4.ints
    exact .inr ⟨p, ns, rfl, h4, k _ _ H h S .refl rfl⟩
theorem hc_sum (hc : X.calm = true) : X.K = Λ.B.K → CallR X (.builtin "sum") (fun vs H Q => rSum Λ.B.K vs H Q ∨ rSumT Λ.B.K vs H Q) := fun hK => hK ▸ callE (cr_sum hc) (cr_sumT hc)
def allD : List D → DK := fun ds q _ => ∃ bs : List Bool, ds = [.lst (bs.map .bl)] ∧ q (.bl (bs.all id))
theorem snd_all : SndC Λ w (rAll Λ.B.K) allD := fun env W σ H ds vs Q q x S hx r h k => by
  obtain ⟨ns, e, h⟩ := h
  subst e
  obtain ⟨v, rfl, r1⟩ := r.one_inv
  obtain ⟨p, vs, rfl, h4, r4⟩ := rep_lst r1
  cases r4.bools
  exact ⟨p, ns, rfl, sqL_of h4, k _ _ H h S .refl rfl⟩
theorem hc_all (hc : X.calm = true) : X.K = Λ.B.K → CallR X (.builtin "all") (rAll Λ.B.K) := fun hK => hK ▸ cr_all hc
def tupleD : List D → DK := fun ds q _ => match ds with
  | [.lst xs] => q (.tup xs)
  | [.tup xs] => q (.tup xs)
  | _ => False
theorem snd_tuple : SndC Λ w (fun xs H Q => ∃ p ys, xs = [.ref p] ∧ ((SqL Λ.B.K H p ys ∧ ∀ l, H l = none → Q (.ref l) (upd H l (.tup ys))) ∨ (SqT Λ.B.K H p ys ∧ Q (.ref p) H))) tupleD := fun env W σ H ds vs Q q x S hx r h k => by
  unfold tupleD at h
  split at h
  · obtain ⟨v, rfl, r1⟩ := r.one_inv
    obtain ⟨p, vs, rfl, h4, r4⟩ := rep_lst r1
    exact ⟨p, vs, rfl, .inl ⟨sqL_of h4, fin_tup S r4 h k⟩⟩
  · obtain ⟨v, rfl, r1⟩ := r.one_inv
    obtain ⟨p, vs, rfl, h4, r4⟩ := rep_tup r1
    exact ⟨p, vs, rfl, .inr ⟨h4, k _ _ H h S .refl r1⟩⟩
  · exact h.elim
theorem hc_tuple : X.K = Λ.B.K → CallR X (.type "tuple") (fun xs H Q => ∃ p ys, xs = [.ref p] ∧ ((SqL Λ.B.K H p ys ∧ ∀ l, H l = none → Q (.ref l) (upd H l (.tup ys))) ∨ (SqT Λ.B.K H p ys ∧ Q (.ref p) H))) := fun hK => hK ▸ call_tuple_of
def dCL (f : List D → (List D → Prop) → (DX → Prop) → Prop) (u : DA) : DA := fun env q x => u env (fun ds => f ds q x) x
theorem snd_cl {r : List V → Hp → VK → Prop} {f : List D → (List D → Prop) → (DX → Prop) → Prop} {ra : TA} {u : DA} (hr : SndCL Λ w r f) (ha : SndA Λ w ra u) : SndL Λ w (tCB r ra) (dCL f u) := fun env W σ H Q q x S hx h k =>
  ha env W σ H _ _ x S hx h fun ds vs H1 h1 S1 e1 r1 => hr env W σ H1 ds vs Q q x S1 (hx.on e1) r1 h1 fun d3 p v3 H3 h3 S3 e3 hp h4 r3 => k d3 p v3 H3 h3 S3 (e1.trans e3) (e1.free hp) h4 r3
theorem xl_callTy {id : String} {y : Str} {p : Pos} {r : List V → Hp → VK → Prop} {f : List D → (List D → Prop) → (DX → Prop) → Prop} {u : DA} (hc : X.K = Λ.B.K → CallR X (.type id) r) (hr : SndCL Λ w r f) (hg : Gl X y) (hm : X.mg y = none) (hv : bootBuiltins y = some (.type id)) (ha : XA X Λ w (e :: es) u) (hn : y ≠ "__name__" := by decide) (hdb : (y == ("__debug__" : Str)) = false := by decide)
    (he : starEach (e :: es) X.env = (false, eval e X.env) :: starEach es X.env := by rfl) (hpl : (backTo pos (starEach es X.env)).any (·.1) = false := by rfl) : XL X Λ w (.Call (.Name y p) (e :: es) [] pos) (dCL f u) := ⟨fun hK => by
  obtain ⟨ra, pa, sa⟩ := ha.ex hK
  exact ⟨_, pe_callTy (hc hK) hg hm hv pa hn hdb he hpl, snd_cl hr sa⟩⟩
theorem xl_callB {id : String} {y : Str} {p : Pos} {r : List V → Hp → VK → Prop} {f : List D → (List D → Prop) → (DX → Prop) → Prop} {u : DA} (hc : X.K = Λ.B.K → CallR X (.builtin id) r) (hr : SndCL Λ w r f) (hg : Gl X y) (hm : X.mg y = none) (hv : bootBuiltins y = some (.builtin id)) (ha : XA X Λ w (e :: es) u) (hn : y ≠ "__name__" := by decide) (hdb : (y == ("__debug__" : Str)) = false := by decide)
    (he : starEach (e :: es) X.env = (false, eval e X.env) :: starEach es X.env := by rfl) (hpl : (backTo pos (starEach es X.env)).any (·.1) = false := by rfl) : XL X Λ w (.Call (.Name y p) (e :: es) [] pos) (dCL f u) := ⟨fun hK => by
  obtain ⟨ra, pa, sa⟩ := ha.ex hK
  exact ⟨_, pe_callB (hc hK) hg hm hv pa hn hdb he hpl, snd_cl hr sa⟩⟩
theorem finL {env : List Sl} {W : Ow} {σ : L2.St} {H : Hp} {Q : VK} {q : List D → Prop} {ds : List D} {vs : List V} (S : StOk Λ env W σ H) (r : RepL Λ.B (Λ.vis W H) ds vs) (h : q ds)
    (k : ∀ ds p vs H', q ds → StOk Λ env W σ H' → Ev Λ W H H' → H p = none → H' p = some (.lst vs) → RepL Λ.B (hid (fun a => a = p) (Λ.vis W H')) ds vs → Q (.ref p) H') : ∀ p, H p = none → Q (.ref p) (upd H p (.lst vs)) := fun p hp => by
  have s := same_new (o := .lst vs) hp
  exact k _ p _ _ h (S.grow s) (.of s) hp upd_same (r.up (vis_hid S hp))
def listD : List D → (List D → Prop) → (DX → Prop) → Prop := fun ds q _ => match ds with
  | [.lst xs] => q xs
  | [.tup xs] => q xs
  | _ => False
theorem snd_list : SndCL Λ w (fun xs H Q => ∃ p ys, xs = [.ref p] ∧ (SqL Λ.B.K H p ys ∨ SqT Λ.B.K H p ys) ∧ ∀ l, H l = none → Q (.ref l) (upd H l (.lst ys))) listD := fun env W σ H ds vs Q q x S hx r h k => by
  unfold listD at h
  split at h
  · obtain ⟨v, rfl, r1⟩ := r.one_inv
    obtain ⟨p, vs, rfl, h4, r4⟩ := rep_lst r1
    exact ⟨p, vs, rfl, .inl (sqL_of h4), finL S r4 h k⟩
  · obtain ⟨v, rfl, r1⟩ := r.one_inv
    obtain ⟨p, vs, rfl, h4, r4⟩ := rep_tup r1
    exact ⟨p, vs, rfl, .inr h4, finL S r4 h k⟩
  · exact h.elim
theorem hc_list : X.K = Λ.B.K → CallR X (.type "list") (fun xs H Q => ∃ p ys, xs = [.ref p] ∧ (SqL Λ.B.K H p ys ∨ SqT Λ.B.K H p ys) ∧ ∀ l, H l = none → Q (.ref l) (upd H l (.lst ys))) := fun hK => hK ▸ call_list_of
end
end Eb

namespace Eb
open PySem PySem.Spec PyProof.Rows L2 StX
abbrev DW := List D → DK
def spF0 (B : Tb) (wp : DW) : Sp := fun vs H Q _ => ∃ (Z : Addr → Prop) (ds : List D) (q : D → Prop), (∀ a, Z a → H a ≠ none) ∧ RepL B (hid Z H) ds vs ∧ wp ds q (fun _ => False) ∧ ∀ d v H', q d → Same H H' → Rep B (hid Z H') d v → Q v H'
def spF (B : Tb) (wp : DW) : Sp := fun vs H Q E => ∃ (Z : Addr → Prop) (ds : List D) (q : D → Prop) (x : DX → Prop), (∀ a, Z a → H a ≠ none) ∧ RepL B (hid Z H) ds vs ∧ wp ds q x ∧ (∀ d v H', q d → Same H H' → Rep B (hid Z H') d v → Q v H') ∧ ∀ dx cv od H', x dx → Same H H' → RepX B (hid Z H') dx cv od → E cv od H'
def spG0 (B : Tb) (wp : DW) : Sp := fun vs H Q _ => ∃ (Z : Addr → Prop) (ds : List D) (q : D → Prop) (d l : Addr) (vr : List V), vs = .ref d :: vr ∧ Deal H d l ∧ (∀ a, Z a → H a ≠ none) ∧ RepL B (hid (fun a => Z a ∨ (a = d ∨ a = l)) H) ds vr ∧
  wp ds q (fun _ => False) ∧ ∀ r v H', q r → Drew d l H H' → Rep B (hid (fun a => Z a ∨ (a = d ∨ a = l)) H') r v → Q v H'
abbrev DWI := List D → (List D → Prop) → (DX → Prop) → Prop
def spI0 (B : Tb) (c : Nat) (wp : DWI) : Sp := fun vs H Q _ => ∃ (Z : Addr → Prop) (ds : List D) (q : List D → Prop) (p dx : Addr) (vr : List V), vs = .ref p :: vr ∧ H p = some (.ins (B.C c) dx []) ∧ ¬ Z p ∧ (∀ a, Z a → H a ≠ none) ∧ RepL B (hid (fun a => Z a ∨ a = p) H) ds vr ∧
  wp ds q (fun _ => False) ∧ ∀ fs H' dy gs, q fs → (∀ a o, a ≠ p → H a = some o → H' a = some o) → H' p = some (.ins (B.C c) dy gs) → gs.map (·.1) = B.fl c → RepL B (hid (fun a => Z a ∨ a = p) H') fs (gs.map (·.2)) → Q .non H'
def endsF (q : D → Prop) (x : DX → Prop) : DEnds := ⟨fun _ => q .non, fun _ => q, fun _ => False, fun _ => False, fun _ => x⟩
def wpOf (n m : Nat) (t : DS) : DW := fun ds q x => ds.length = n ∧ t (ds.map Sl.va ++ List.replicate m .un) (endsF q x)
def wpOfG (n m : Nat) (t : DS) : DW := fun ds q x => ds.length = n ∧ t (.dl :: (ds.map Sl.va ++ List.replicate m .un)) (endsF q x)
def endI (c n : Nat) (q : List D → Prop) (env : List Sl) : Prop := match env[0]? with
  | some (Sl.se c' fs) => c' = c ∧ fs.length = n ∧ q fs
  | _ => False
def endsI (c n : Nat) (q : List D → Prop) (x : DX → Prop) : DEnds := ⟨endI c n q, fun _ _ => False, fun _ => False, fun _ => False, fun _ => x⟩
def wpOfI (c k n m : Nat) (t : DS) : DWI := fun ds q x => ds.length = n ∧ t (.se c [] :: (ds.map Sl.va ++ List.replicate m .un)) (endsI c k q x)
theorem start_len {N : List Str} {vs : List V} (h : vs.length ≤ N.length) : (L2.start N vs).length = N.length := by
  unfold L2.start
  simp
  omega
theorem start_get {N : List Str} {vs : List V} {i : Nat} (h : i < vs.length) : (L2.start N vs)[i]? = some (some vs[i]) := by
  unfold L2.start
  rw [List.getElem?_append_left (by simpa using h)]
  simp [h]
theorem env_get {ds : List D} {m i : Nat} {s : Sl} (h : (ds.map Sl.va ++ List.replicate m Sl.un)[i]? = some s) : (∃ d, ds[i]? = some d ∧ s = .va d) ∨ s = .un := by
  by_cases c : i < ds.length
  · rw [List.getElem?_append_left (by simpa using c)] at h
    simp only [List.getElem?_map] at h
    rw [List.getElem?_eq_getElem c] at h
    cases h
    exact .inl ⟨_, List.getElem?_eq_getElem c, rfl⟩
  · rw [List.getElem?_append_right (by simpa using c)] at h
    have := List.getElem?_eq_some_iff.mp h
    obtain ⟨_, e⟩ := this
    rw [List.getElem_replicate] at e
    exact .inr e.symm
section
variable {P : Program} {w' : World} {K : PySem.W.Frag} {mg : Str → Option Value} {base : Heap} {name qual : Str} {st : Stmt} {f : Addr} {fd : FuncData} {N ps : List Str} {k : Nat} {B : Tb}
theorem run_body {X : Cx} {Λ : Lx} {w : WX} {sts : List Stmt} {t : DS} {env : List Sl} {W : Ow} {σ : L2.St} {H : Hp} {E : Ends} {e : DEnds} (h : XSs X Λ w sts t) (hK : X.K = Λ.B.K) (S : StOk Λ env W σ H) (L : Lnk Λ w W H E e) (ht : t env e) : ∃ ts, PSs X sts ts ∧ ts E σ H := by
  obtain ⟨r, p, s⟩ := h.ex hK
  exact ⟨r, p, s env W σ H E e S L ht⟩
theorem st_start {Z : Addr → Prop} {H : Hp} {ds : List D} {vs : List V} {m : Nat} (hZ : ∀ a, Z a → H a ≠ none) (r : RepL B (hid Z H) ds vs) (hN : N.length = ds.length + m) : StOk ⟨B, Z, fun _ => False, H, none⟩ (ds.map Sl.va ++ List.replicate m .un) (fun _ => none) (L2.start N vs) H where
  len := by rw [start_len (by rw [r.len]; omega)]; simp [hN]
  sl := fun i s e => by
    rcases env_get e with ⟨d, hd, rfl⟩ | rfl
    · obtain ⟨v, hv, rv⟩ := r.get hd
      obtain ⟨hi, e2⟩ := List.getElem?_eq_some_iff.mp hv
      refine ⟨v, by rw [start_get hi, e2], rv.up (hid_anti fun a g => ?_)⟩
      rcases g with z | z | ⟨j, z⟩
      · exact z
      · exact z.elim
      · cases z
    · trivial
  fr := fun a o _ h => h
  mx := fun a m => m.elim
  zx := hZ
  wx := fun i p e => by cases e
  wi := fun i j p e => by cases e
  dl := fun d l e => by cases e
  wf := ⟨0, fun _ _ => rfl⟩
theorem out0 {Z : Addr → Prop} {H H' : Hp} : Same ((⟨B, Z, fun _ => False, H, none⟩ : Lx).out H') (hid Z H') := hid_anti fun a z => .inl z
theorem fnF0 (F : Fun K name qual st f fd) (S : FnScope N ps (defScope st)) {t : DS} {n m : Nat} (hn : ps.length = n) (hN : N.length = n + m) (hK : K = B.K)
    (body : ∀ (cdv : Value) (A : Around) (outer : List Env) (s : Shared) (H : Hp) (E : XK) (Z M : Addr → Prop) (H0 : Hp) (dl : Option (Addr × Addr)), Room k (A.deeper (envOfC qual (defScope st) s.heap.objs.size f cdv)) →
      XSs (cxOf CX0 P w' K mg base N qual (defScope st) f cdv A outer s H E).nox ⟨B, Z, M, H0, dl⟩ w0 (defBody st) t) : FnOk P w' K mg base CX0 (k + 1) f fd ps (spF0 B (wpOf n m t)) := by
  refine F.ok S (fun vs H Q E ⟨Z, ds, _, _, r, h, _⟩ => by rw [r.len, h.1, hn]) fun cdv A outer s H vs Q E hr ⟨Z, ds, q, hZ, r, ⟨hl, ht⟩, kq⟩ => ?_
  refine run_body (body cdv A outer s H E Z (fun _ => False) H none hr) hK (st_start hZ r (by rw [hl]; exact hN)) ?_ ht
  refine ⟨fun env' W' σ' H' q S' _ => kq _ _ _ q (fun a o h => S'.fr a o (fun z => z) h) rfl, fun _ _ _ _ q => q.elim, fun _ _ _ _ q => q.elim, fun d v env' W' σ' H' q S' rp => kq d v H' q (fun a o h => S'.fr a o (fun z => z) h) ((rp.up out_of).up out0), fun _ _ _ _ _ _ _ q => q.elim⟩
theorem fnF (F : Fun K name qual st f fd) (S : FnScope N ps (defScope st)) {t : DS} {n m : Nat} (hn : ps.length = n) (hN : N.length = n + m) (hK : K = B.K)
    (body : ∀ (cdv : Value) (A : Around) (outer : List Env) (s : Shared) (H : Hp) (E : XK) (Z M : Addr → Prop) (H0 : Hp) (dl : Option (Addr × Addr)), Room k (A.deeper (envOfC qual (defScope st) s.heap.objs.size f cdv)) →
      XSs (cxOf (L2.CX P w') P w' K mg base N qual (defScope st) f cdv A outer s H E) ⟨B, Z, M, H0, dl⟩ (fun cls d _ H => E cls d H) (defBody st) t) : FnOk P w' K mg base (L2.CX P w') (k + 1) f fd ps (spF B (wpOf n m t)) := by
  refine F.okX S (fun vs H Q E ⟨Z, ds, _, _, _, r, h, _⟩ => by rw [r.len, h.1, hn]) fun cdv A outer s H vs Q E hr ⟨Z, ds, q, x, hZ, r, ⟨hl, ht⟩, kq, kx⟩ => ?_
  refine run_body (body cdv A outer s H E Z (fun _ => False) H none hr) hK (st_start hZ r (by rw [hl]; exact hN)) ?_ ht
  refine ⟨fun env' W' σ' H' q S' _ => kq _ _ _ q (fun a o h => S'.fr a o (fun z => z) h) rfl, fun _ _ _ _ q => q.elim, fun _ _ _ _ q => q.elim, fun d v env' W' σ' H' q S' rp => kq d v H' q (fun a o h => S'.fr a o (fun z => z) h) ((rp.up out_of).up out0), fun env' W' σ' H' dx cv od q S' _ rx => ?_⟩
  refine kx dx cv od H' q (fun a o h => S'.fr a o (fun z => z) h) ?_
  have up : Same ((⟨B, Z, fun _ => False, H, none⟩ : Lx).vis W' H') (hid Z H') := hid_anti fun a z => .inl z
  refine ⟨rx.1, ?_⟩
  have r2 := rx.2
  split
  · rename_i e
    rw [e] at r2
    exact r2
  · rename_i d e
    rw [e] at r2
    obtain ⟨a, v, h1, h2, h3⟩ := r2
    exact ⟨a, v, h1, up _ _ h2, h3.up up⟩
theorem st_startG {Z : Addr → Prop} {H : Hp} {d l : Addr} {ds : List D} {vs : List V} {m : Nat} (D0 : Deal H d l) (hZ : ∀ a, Z a → H a ≠ none) (r : RepL B (hid (fun a => Z a ∨ (a = d ∨ a = l)) H) ds vs) (hN : N.length = ds.length + 1 + m) :
    StOk ⟨B, Z, fun a => a = d ∨ a = l, H, some (d, l)⟩ (.dl :: (ds.map Sl.va ++ List.replicate m .un)) (fun _ => none) (L2.start N (.ref d :: vs)) H where
  len := by rw [start_len (by rw [List.length_cons, r.len]; omega)]; simp [hN]; omega
  sl := fun i s e => by
    cases i with
    | zero =>
      cases e
      exact ⟨d, l, rfl, by rw [start_get (by simp)]; rfl⟩
    | succ i =>
      rw [List.getElem?_cons_succ] at e
      rcases env_get e with ⟨d', hd, rfl⟩ | rfl
      · obtain ⟨v, hv, rv⟩ := r.get hd
        obtain ⟨hi, e2⟩ := List.getElem?_eq_some_iff.mp hv
        refine ⟨v, by rw [start_get (by simpa using hi), ← e2]; rfl, rv.up (hid_anti fun a g => ?_)⟩
        rcases g with z | z | ⟨j, z⟩
        · exact .inl z
        · exact .inr z
        · cases z
      · trivial
  fr := fun a o _ h => h
  mx := fun a m => by
    rcases m with rfl | rfl
    · exact D0.none _ (by simp)
    · exact D0.none _ (by simp)
  zx := hZ
  wx := fun i p e => by cases e
  wi := fun i j p e => by cases e
  dl := fun d' l' e => by
    cases e
    exact ⟨D0, .inl rfl, .inr rfl, fun i => ⟨by simp, by simp⟩⟩
  wf := ⟨0, fun _ _ => rfl⟩
theorem drew_of {Z : Addr → Prop} {H H' : Hp} {d l : Addr} {env : List Sl} {W : Ow} {σ : L2.St} (S : StOk ⟨B, Z, fun a => a = d ∨ a = l, H, some (d, l)⟩ env W σ H') : Drew d l H H' := ⟨(S.dl d l rfl).1, fun b o n h => S.fr b o (fun z => n (by simpa using z)) h⟩
theorem fnG0 (F : Fun K name qual st f fd) (S : FnScope N ps (defScope st)) {t : DS} {n m : Nat} (hn : ps.length = n + 1) (hN : N.length = n + 1 + m) (hK : K = B.K)
    (body : ∀ (cdv : Value) (A : Around) (outer : List Env) (s : Shared) (H : Hp) (E : XK) (Z M : Addr → Prop) (H0 : Hp) (dl : Option (Addr × Addr)), Room k (A.deeper (envOfC qual (defScope st) s.heap.objs.size f cdv)) →
      XSs (cxOf CX0 P w' K mg base N qual (defScope st) f cdv A outer s H E).nox ⟨B, Z, M, H0, dl⟩ w0 (defBody st) t) : FnOk P w' K mg base CX0 (k + 1) f fd ps (spG0 B (wpOfG n m t)) := by
  refine F.ok S (fun vs H Q E ⟨Z, ds, _, d, l, vr, e, _, _, r, h, _⟩ => by rw [e, List.length_cons, r.len, h.1, hn]) fun cdv A outer s H vs Q E hr ⟨Z, ds, q, d, l, vr, e, D0, hZ, r, ⟨hl, ht⟩, kq⟩ => ?_
  subst e
  refine run_body (body cdv A outer s H E Z (fun a => a = d ∨ a = l) H (some (d, l)) hr) hK (st_startG D0 hZ r (by rw [hl]; exact hN)) ?_ ht
  exact ⟨fun env' W' σ' H' q S' _ => kq _ _ _ q (drew_of S') rfl, fun _ _ _ _ q => q.elim, fun _ _ _ _ q => q.elim, fun d v env' W' σ' H' q S' rp => kq d v H' q (drew_of S') (rp.up out_of), fun _ _ _ _ _ _ _ q => q.elim⟩
end
section
variable {X : Cx} {Λ : Lx} {w : WX} {a b c e o : Expr} {es : List Expr} {ta tb tc t : DE} {tA tB : DT} {u : DA} {pos p apos : Pos} {k : Nat} {f : Addr} {fd : FuncData} {ps : List Str} {wp : DW} {y : Str}
theorem hG {env : List Sl} {W : Ow} {σ : L2.St} {H : Hp} (S : StOk Λ env W σ H) : ∀ a, Λ.G W a → H a ≠ none := fun a g h => S.fresh h g
theorem call0 {env : List Sl} {W : Ow} {σ : L2.St} {H : Hp} {Q : VK} {q : D → Prop} {E : XK} {ds : List D} {vs : List V} (S : StOk Λ env W σ H) (r : RepL Λ.B (Λ.vis W H) ds vs) (h : wp ds q (fun _ => False))
    (k : ∀ d v H', q d → StOk Λ env W σ H' → Ev Λ W H H' → Rep Λ.B (Λ.vis W H') d v → Q v H') : spF0 Λ.B wp vs H Q E :=
  ⟨Λ.G W, ds, q, hG S, r, h, fun d v H' hd s rp => k d v H' hd (S.grow s) (.of s) rp⟩
def dF0 (wp : DW) (u : DA) : DE := fun env q x => u env (fun ds => wp ds q (fun _ => False)) x
theorem xe_call (F : FnOk X.prog X.w X.K X.mg X.base CX0 k f fd ps (spF0 Λ.B wp)) (hr : Room k X.A) (hg : Gl X y) (hm : X.mg y = some (.ref f)) (hk : PySem.W.keepIn X.K (.ref f) = true) (hb : Binds X.K fd ps []) (ha : XA X Λ w (e :: es) u) (hdb : (y == ("__debug__" : Str)) = false := by decide)
    (he : starEach (e :: es) X.env = (false, eval e X.env) :: starEach es X.env := by rfl) (hpl : (backTo pos (starEach es X.env)).any (·.1) = false := by rfl) : XE X Λ w (.Call (.Name y p) (e :: es) [] pos) (dF0 wp u) := ⟨fun hK => by
  obtain ⟨ra, pa, sa⟩ := ha.ex hK
  refine ⟨_, pe_call F hr hg hm hk hb .nil pass0 pa hdb he hpl, fun env W σ H Q q x S hx h k => sa env W σ H _ _ x S hx h fun ds vs H1 h1 S1 e1 r1 => ?_⟩
  rw [List.append_nil]
  exact call0 S1 r1 h1 fun d v H' a b c => k d v H' a b (e1.trans c)⟩
theorem xe_call0 (F : FnOk X.prog X.w X.K X.mg X.base CX0 k f fd ps (spF0 Λ.B wp)) (hr : Room k X.A) (hg : Gl X y) (hm : X.mg y = some (.ref f)) (hk : PySem.W.keepIn X.K (.ref f) = true) (hb : Binds X.K fd ps []) (hdb : (y == ("__debug__" : Str)) = false := by decide) :
    XE X Λ w (.Call (.Name y p) [] [] pos) (dF0 wp dNil) := ⟨fun hK => by
  refine ⟨_, pe_call0 F hr hg hm hk hb .nil pass0 hdb, fun env W σ H Q q x S hx h k => ?_⟩
  exact call0 (E := E0) (ds := []) (vs := []) S rfl h k⟩
def dF (wp : DW) (u : DA) : DE := fun env q x => u env (fun ds => wp ds q x) x
theorem xe_callX (tk : Takes X w) (F : FnOk X.prog X.w X.K X.mg X.base (L2.CX X.prog X.w) k f fd ps (spF Λ.B wp)) (hr : Room k X.A) (hg : Gl X y) (hm : X.mg y = some (.ref f)) (hk : PySem.W.keepIn X.K (.ref f) = true) (hb : Binds X.K fd ps []) (ha : XA X Λ w (e :: es) u) (hdb : (y == ("__debug__" : Str)) = false := by decide)
    (he : starEach (e :: es) X.env = (false, eval e X.env) :: starEach es X.env := by rfl) (hpl : (backTo pos (starEach es X.env)).any (·.1) = false := by rfl) : XE X Λ w (.Call (.Name y p) (e :: es) [] pos) (dF wp u) := ⟨fun hK => by
  obtain ⟨ra, pa, sa⟩ := ha.ex hK
  refine ⟨_, pe_callS F hr hg hm hk hb (fun σ => passAt tk σ) pa hdb he hpl, fun env W σ H Q q x S hx h k => sa env W σ H _ _ x S hx h fun ds vs H1 h1 S1 e1 r1 => ?_⟩
  exact ⟨Λ.G W, ds, q, x, hG S1, r1, h1, fun d v H' hd s rp => k d v H' hd (S1.grow s) (e1.trans (.of s)) rp, fun dx cv od H' hd s rp => hx dx cv od H' hd (S1.grow s) (e1.trans (.of s)) rp⟩⟩
def dG0 (i : Nat) (wp : DW) (u : DA) : DE := fun env q x => match env[i]? with
  | some .dl => u env (fun ds => wp ds q (fun _ => False)) x
  | _ => False
theorem call_g {env : List Sl} {W : Ow} {σ : L2.St} {H : Hp} {Q : VK} {q : D → Prop} {E : XK} {ds : List D} {vs : List V} {d l : Addr} (S : StOk Λ env W σ H) (ed : Λ.dl = some (d, l)) (r : RepL Λ.B (Λ.vis W H) ds vs) (h : wp ds q (fun _ => False))
    (k : ∀ d v H', q d → StOk Λ env W σ H' → Ev Λ W H H' → Rep Λ.B (Λ.vis W H') d v → Q v H') : spG0 Λ.B wp (.ref d :: vs) H Q E := by
  obtain ⟨D0, md, ml, _⟩ := S.dl d l ed
  have g1 : ∀ H', Same (Λ.vis W H') (hid (fun a => Λ.G W a ∨ (a = d ∨ a = l)) H') := fun H' => hid_anti fun a g => by
    rcases g with g | rfl | rfl
    · exact g
    · exact .inr (.inl md)
    · exact .inr (.inl ml)
  have g2 : ∀ H', Same (hid (fun a => Λ.G W a ∨ (a = d ∨ a = l)) H') (Λ.vis W H') := fun H' => hid_anti fun a g => .inl g
  refine ⟨Λ.G W, ds, q, d, l, vs, rfl, D0, hG S, r.up (g1 H), h, fun r' v H' hd dr rp => ?_⟩
  obtain ⟨S', ev⟩ := S.drew ed dr
  exact k r' v H' hd S' ev (rp.up (g2 H'))
theorem xe_callG {i : Nat} {y1 : Str} {p1 : Pos} (ho : PE X (.Name y1 p1) (tVar i)) (F : FnOk X.prog X.w X.K X.mg X.base CX0 k f fd ps (spG0 Λ.B wp)) (hr : Room k X.A) (hg : Gl X y) (hm : X.mg y = some (.ref f)) (hk : PySem.W.keepIn X.K (.ref f) = true) (hb : Binds X.K fd ps []) (ha : XA X Λ w es u) (hdb : (y == ("__debug__" : Str)) = false := by decide)
    (he : starEach (.Name y1 p1 :: es) X.env = (false, eval (.Name y1 p1) X.env) :: starEach es X.env := by rfl) (hpl : (backTo pos (starEach es X.env)).any (·.1) = false := by rfl) : XE X Λ w (.Call (.Name y p) (.Name y1 p1 :: es) [] pos) (dG0 i wp u) := ⟨fun hK => by
  obtain ⟨ra, pa, sa⟩ := ha.ex hK
  refine ⟨_, pe_call F hr hg hm hk hb .nil pass0 (pa_cons ho pa he) hdb he hpl, fun env W σ H Q q x S hx h k => ?_⟩
  unfold dG0 at h
  split at h
  · rename_i hd
    obtain ⟨d, l, ed, hσ⟩ := S.sl i _ hd
    refine ⟨_, hσ, sa env W σ H _ _ x S hx h fun ds vs H1 h1 S1 e1 r1 => ?_⟩
    show spG0 Λ.B wp ((V.ref d :: vs) ++ []) H1 Q E0
    rw [List.append_nil]
    exact call_g S1 ed r1 h1 fun d v H' a b c => k d v H' a b (e1.trans c)
  · exact h.elim⟩
def wpDraw : DW := fun ds q _ => match ds with
  | [.int n] => 0 < n ∧ Sm n ∧ ∀ r, 0 ≤ r → r < n → q (.int r)
  | _ => False
def dFld (cs : List (Nat × Nat)) (t : DE) : DE := fun env q x => t env (fun d => match d with
  | .obj c ds => match cs.lookup c with
    | some k => match ds[k]? with
      | some z => q z
      | none => False
    | none => False
  | _ => False) x
def FldOk (B : Tb) (f : Str) (c k : Nat) : Prop := Cls B.K (B.C c) ∧ NoAttr B.K (B.C c) f ∧ ∀ vs : List V, vs.length = (B.fl c).length → ((B.fl c).zip vs).lookup f = vs[k]?
theorem zip_maps {gs : List (Str × V)} : (gs.map (·.1)).zip (gs.map (·.2)) = gs := by
  induction gs with
  | nil => rfl
  | cons g gs ih => simp [ih]
theorem FldOk.get {B : Tb} {g : Str} {c k : Nat} {gs : List (Str × V)} (h : FldOk B g c k) (e : gs.map (·.1) = B.fl c) : gs.lookup g = (gs.map (·.2))[k]? := by
  have := h.2.2 (gs.map (·.2)) (by rw [← e]; simp)
  rw [← e, zip_maps] at this
  exact this
theorem xe_fld {g : Str} {cs : List (Nat × Nat)} (hc : ∀ c k, cs.lookup c = some k → FldOk Λ.B g c k) (ha : XE X Λ w a t) (hb : attributeBase a g X.env (eval a X.env) = eval a X.env := by rfl) : XE X Λ w (.Attribute a g pos) (dFld cs t) := ⟨fun hK => by
  obtain ⟨r, p, s⟩ := ha.ex hK
  refine ⟨_, pe_fld p hb, fun env W σ H Q q x S hx h k => s env W σ H _ _ x S hx h fun d v H1 h1 S1 e1 r1 => ?_⟩
  cases d <;> first | exact h1.elim | skip
  rename_i c ds
  obtain ⟨a, dx, gs, rfl, hg, en, rl⟩ := r1
  simp only at h1
  cases q1 : cs.lookup c with
  | none => rw [q1] at h1; exact h1.elim
  | some kk =>
    rw [q1] at h1
    simp only at h1
    cases q2 : ds[kk]? with
    | none => rw [q2] at h1; exact h1.elim
    | some z =>
      rw [q2] at h1
      have FO := hc c kk q1
      obtain ⟨v, hv, rv⟩ := rl.get q2
      refine ⟨a, _, dx, gs, v, rfl, hid_le _ _ hg, by rw [hK]; exact FO.1, by rw [hK]; exact FO.2.1, by rw [FO.get en]; exact hv, k z v H1 h1 S1 e1 rv⟩⟩
def dM0 (c : Nat) (wp : DW) (t : DE) (u : DA) : DE := fun env q x => t env (fun d => match d with
  | .obj c' fs => c' = c ∧ u env (fun ds => wp (.obj c' fs :: ds) q (fun _ => False)) x
  | _ => False) x
theorem noF {gs : List (Str × V)} {m : Str} {ns : List Str} (e : gs.map (·.1) = ns) (h : ns.contains m = false) : gs.lookup m = none := by
  subst e
  induction gs with
  | nil => rfl
  | cons g gs ih =>
    obtain ⟨n, v⟩ := g
    simp only [List.map_cons, List.contains_cons, Bool.or_eq_false_iff] at h
    rw [List.lookup_cons, h.1]
    exact ih h.2
theorem xe_meth0 {c : Nat} {m : Str} {pl : Sem Bool} (he : XE X Λ w o t) (cl : Cls X.K (Λ.B.C c)) (hm : Meth X.K (Λ.B.C c) m f) (hf : (Λ.B.fl c).contains m = false) (F : FnOk X.prog X.w X.K X.mg X.base CX0 k f fd ps (spF0 Λ.B wp)) (hr : Room k X.A) (hb : Binds X.K fd ps [])
    (ht : eval (.Call (.Attribute o m apos) [] [] pos) X.env = (do
      let ov ← eval o X.env
      standAt apos.atName
      let (f, first) ← holding [ov] (getMethod ov m pl)
      callWith pos f first (backTo pos (starEach [] X.env)) (backToKw pos (keywordEach [] X.env))) := by rfl) : XE X Λ w (.Call (.Attribute o m apos) [] [] pos) (dM0 c wp t dNil) := ⟨fun hK => by
  obtain ⟨r, p, s⟩ := he.ex hK
  refine ⟨_, pe_meth0 p cl hm F hr hb .nil pass0 ht, fun env W σ H Q q x S hx h k => s env W σ H _ _ x S hx h fun d v H1 h1 S1 e1 r1 => ?_⟩
  cases d <;> first | exact h1.elim | skip
  rename_i c' fs
  obtain ⟨rfl, h1⟩ := h1
  obtain ⟨a, dx, gs, rfl, hg, en, rl⟩ := id r1
  refine ⟨a, dx, gs, rfl, hid_le _ _ hg, noF en hf, ?_⟩
  exact call0 (E := E0) (ds := [.obj c' fs]) (vs := [.ref a]) S1 (RepL.cons r1 RepL.nil) h1 fun d v H' a b c => k d v H' a b (e1.trans c)⟩
theorem rep_ins {W : Ow} {H : Hp} {c : Nat} {fs : List D} {v : V} (r : Rep Λ.B (Λ.vis W H) (.obj c fs) v) : ∃ a, v = .ref a ∧ InsO H a (Λ.B.C c) := by
  obtain ⟨a, dx, gs, rfl, hg, _⟩ := r
  exact ⟨a, rfl, dx, gs, hid_le _ _ hg⟩
end
end Eb

namespace Eb
open PySem PySem.Spec PyProof.Rows L2 StX
section
variable {P : Program} {w' : World} {K : PySem.W.Frag} {mg : Str → Option Value} {base : Heap} {name qual : Str} {st : Stmt} {f : Addr} {fd : FuncData} {N ps : List Str} {k : Nat} {B : Tb}
theorem st_startI {Z : Addr → Prop} {H : Hp} {c : Nat} {p dx : Addr} {ds : List D} {vs : List V} {m : Nat} (hp : H p = some (.ins (B.C c) dx [])) (hz : ¬ Z p) (hZ : ∀ a, Z a → H a ≠ none) (r : RepL B (hid (fun a => Z a ∨ a = p) H) ds vs) (hN : N.length = ds.length + 1 + m) :
    StOk ⟨B, Z, fun a => a = p, H, none⟩ (.se c [] :: (ds.map Sl.va ++ List.replicate m .un)) (wput (fun _ => none) 0 (some p)) (L2.start N (.ref p :: vs)) H where
  len := by rw [start_len (by rw [List.length_cons, r.len]; omega)]; simp [hN]; omega
  sl := fun i s e => by
    cases i with
    | zero =>
      cases e
      exact ⟨p, dx, [], rfl, by rw [start_get (by simp)]; rfl, hp, ⟨by simp, rfl⟩, rfl⟩
    | succ i =>
      rw [List.getElem?_cons_succ] at e
      rcases env_get e with ⟨d', hd, rfl⟩ | rfl
      · obtain ⟨v, hv, rv⟩ := r.get hd
        obtain ⟨hi, e2⟩ := List.getElem?_eq_some_iff.mp hv
        refine ⟨v, by rw [start_get (by simpa using hi), ← e2]; rfl, rv.up (hid_anti fun a g => ?_)⟩
        rcases g with z | z | ⟨j, z⟩
        · exact .inl z
        · exact .inr z
        · by_cases q : j = 0
          · rw [wput_same q] at z; cases z; exact .inr rfl
          · rw [wput_ne q] at z; cases z
      · trivial
  fr := fun a o _ h => h
  mx := fun a m => by
    have e : a = p := m
    rw [e, hp]; simp
  zx := hZ
  wx := fun i q e => by
    by_cases c : i = 0
    · rw [wput_same c] at e; cases e
      exact ⟨by rw [hp]; simp, hz, .inr rfl⟩
    · rw [wput_ne c] at e; cases e
  wi := fun i j q e1 e2 => by
    by_cases c : i = 0
    · by_cases c2 : j = 0
      · rw [c, c2]
      · rw [wput_ne c2] at e2; cases e2
    · rw [wput_ne c] at e1; cases e1
  dl := fun d' l' e => by cases e
  wf := ⟨1, fun j hj => wput_ne (by omega)⟩
theorem initL {Z : Addr → Prop} {H : Hp} {c n : Nat} {p dx : Addr} {q : List D → Prop} {Q : VK} (hp : H p = some (.ins (B.C c) dx [])) (hfl : (B.fl c).length = n)
    (kq : ∀ fs H' dy gs, q fs → (∀ a o, a ≠ p → H a = some o → H' a = some o) → H' p = some (.ins (B.C c) dy gs) → gs.map (·.1) = B.fl c → RepL B (hid (fun a => Z a ∨ a = p) H') fs (gs.map (·.2)) → Q .non H') :
    Lnk ⟨B, Z, fun a => a = p, H, none⟩ w0 (wput (fun _ => none) 0 (some p)) H { nx := fun _ H' => Q .non H', rt := Q } (endsI c n q (fun _ => False)) := by
  refine ⟨fun env' W' σ' H' h S' _ => ?_, fun _ _ _ _ z => z.elim, fun _ _ _ _ z => z.elim, fun _ _ _ _ _ _ z => z.elim, fun _ _ _ _ _ _ _ z => z.elim⟩
  have h : endI c n q env' := h
  unfold endI at h
  split at h
  · rename_i c' fs he
    obtain ⟨rfl, hn, hq⟩ := h
    obtain ⟨p', dx', gs, hw, hσ, h1, ⟨h2, hm⟩, h3⟩ := S'.sl 0 _ he
    have e : p' = p := hm
    subst e
    refine kq fs H' dx' gs hq (fun a o n h => S'.fr a o n h) h1 ?_ (h3.up (hid_anti fun a g => ?_))
    · rw [h2, hn, ← hfl, List.take_length]
    · rcases g with z | z
      · exact .inl z
      · exact .inr (.inl z)
  · exact h.elim
end
section
variable {X : Cx} {Λ : Lx} {w : WX} {a b c e o : Expr} {es : List Expr} {ta tb tc t : DE} {tA tB : DT} {u : DA} {pos p apos : Pos} {k : Nat} {f : Addr} {fd : FuncData} {ps : List Str} {wp : DW} {y : Str}
def dSelf (i c k : Nat) (t : DE) : DS := fun env e => match env[i]? with
  | some (Sl.se c' fs) => t env (fun d => c' = c ∧ fs.length = k ∧ e.nx (env.set i (.se c (fs ++ [d])))) (e.ex env)
  | _ => False
def PutOk (B : Tb) (g : Str) (c k : Nat) : Prop := Cls B.K (B.C c) ∧ NoAttr B.K (B.C c) g ∧ (B.fl c).take (k + 1) = (B.fl c).take k ++ [g] ∧ k < 1000 ∧ ((B.fl c).take k).contains g = false ∧ k ≤ (B.fl c).length
theorem putF_new {g : Str} {v : V} : ∀ {gs : List (Str × V)}, (gs.map (·.1)).contains g = false → putF g v gs = gs ++ [(g, v)]
  | [], _ => rfl
  | (n, x) :: gs, h => by
    simp only [List.map_cons, List.contains_cons, Bool.or_eq_false_iff] at h
    have ne : ¬ n = g := fun e => by
      have := h.1
      rw [e, beq_self_eq_true] at this
      cases this
    unfold putF
    rw [if_neg ne, putF_new h.2]
    rfl
theorem xs_self {i cc kk : Nat} {g y : Str} {p1 p2 : Pos} (ok : PutOk Λ.B g cc kk) (ho : PE X (.Name y p1) (tVar i)) (he : XE X Λ w a t) (hs : swapsWith a (some (.Attribute (.Name y p1) g p2)) pos.line X.env = pure false := by rfl) : XS X Λ w (.Assign [.Attribute (.Name y p1) g p2] a pos) (dSelf i cc kk t) := ⟨fun hK => by
  obtain ⟨r, p, s⟩ := he.ex hK
  refine ⟨_, ps_fld ho p hs, fun env W σ H E e S L h => ?_⟩
  unfold dSelf at h
  split at h
  · rename_i c' fs hd
    obtain ⟨q, dx, gs, hw, hσ, hq, ⟨hn, hM⟩, rl⟩ := S.sl i _ hd
    refine s env W σ H _ _ _ S L.xok h fun d v H1 h1 S1 e1 r1 => ?_
    obtain ⟨rfl, rfl, h1⟩ := h1
    have hq1 := e1.own i q _ hw hq
    have hlen : gs.length < 1000 := by
      have := congrArg List.length hn
      rw [List.length_map, List.length_take] at this
      have := ok.2.2.2.1
      omega
    refine ⟨_, hσ, q, _, dx, gs, rfl, hq1, by rw [hK]; exact ok.1, by rw [hK]; exact ok.2.1, hlen, ?_⟩
    rw [putF_new (by rw [hn]; exact ok.2.2.2.2.1)]
    have v1 : Same (Λ.vis W H1) (Λ.vis W (upd H1 q (.ins (Λ.B.C c') dx (gs ++ [(g, v)])))) := hid_grow fun a u gg ha => ⟨gg, by rw [upd_ne (show a ≠ q from fun z => gg (.inr (.inr ⟨i, by rw [z]; exact hw⟩)))]; exact ha⟩
    have m1 : (gs ++ [(g, v)]).map (·.1) = (Λ.B.fl c').take (fs ++ [d]).length := by
      rw [List.map_append, hn, List.length_append]
      exact ok.2.2.1.symm
    have m2 : RepL Λ.B (Λ.vis W (upd H1 q (.ins (Λ.B.C c') dx (gs ++ [(g, v)])))) (fs ++ [d]) ((gs ++ [(g, v)]).map (·.2)) := by
      rw [List.map_append]
      exact ((rl.up e1.vis).app (.one r1)).up v1
    obtain ⟨S2, s2⟩ := S1.mut (o := .ins (Λ.B.C c') dx (gs ++ [(g, v)])) hw (s := .se c' (fs ++ [d])) ⟨q, dx, gs ++ [(g, v)], hw, hσ, upd_same, ⟨m1, hM⟩, m2⟩ (List.getElem?_eq_some_iff.mp hd).1
    exact L.nx _ _ _ _ h1 S2 (e1.vis.trans s2)
  · exact h.elim⟩
theorem shaped_nil : SeqAt.shaped (.list []) = true := shaped_list []
def InsOk (B : Tb) (c : Nat) : Prop := Cls B.K (B.C c) ∧ PySem.W.findIn B.K (.ref (B.C c)) "__class__" = some (some (.builtin "object.__class__")) ∧ PySem.W.specialIn B.K (.builtin "object.__class__") "__get__" = some (some (.builtin "getset_descriptor.__get__")) ∧ PySem.W.takesIn B.K (.builtin "object.__class__") = some true ∧ PySem.W.mroIn B.K (B.C c) (.type "object") = some true
inductive BT where
  | int | bool | str | list | tuple
def BT.nm : BT → String
  | .int => "int" | .bool => "bool" | .str => "str" | .list => "list" | .tuple => "tuple"
def D.bn : D → Option String
  | .non => some "NoneType"
  | .bl _ => some "bool"
  | .int _ => some "int"
  | .str _ => some "str"
  | .lst _ => some "list"
  | .tup _ => some "tuple"
  | _ => none
def isBT : BT → D → Bool
  | .int, .int _ => true
  | .int, .bl _ => true
  | .bool, .bl _ => true
  | .str, .str _ => true
  | .list, .lst _ => true
  | .tuple, .tup _ => true
  | _, _ => false
theorem isBT_ok {n : BT} {d : D} {m : String} (h : d.bn = some m) : kitB m n.nm = some (isBT n d) := by
  cases d <;> cases h <;> cases n <;> first | (show kitB _ _ = some true; decide +kernel) | (show kitB _ _ = some false; decide +kernel)
theorem rep_tyX {B : Tb} {H : Hp} {d : D} {v : V} {m : String} (r : Rep B H d v) (h : d.bn = some m) : TyX B.K H v (.type m) := by
  cases d <;> cases h
  · cases r; exact .base .non
  · cases r; exact .base (.bl _)
  · cases r; exact .base (.int _)
  · cases r; exact .base (.str _)
  · obtain ⟨a, vs, rfl, h1, h2⟩ := r
    exact .base (.lst h1)
  · obtain ⟨a, vs, rfl, h1, h2⟩ := r
    rcases h1 with (h1 | ⟨o, h1⟩) | ⟨o, its, n, h3, h4, _⟩
    · exact .base (.tup h1)
    · exact .fTuple h1
    · exact .kTuple h3 h4
theorem rep_tyO {B : Tb} {H : Hp} {c : Nat} {fs : List D} {v : V} (ok : InsOk B c) (r : Rep B H (.obj c fs) v) : TyX B.K H v (.ref (B.C c)) := by
  obtain ⟨a, dx, gs, rfl, h1, h2⟩ := r
  obtain ⟨c1, c2, c3, c4, c5⟩ := ok
  exact .base (.ins h1 c1 c2 c3 c4 c5)
def isTD (n : BT) (cs : List Nat) (d : D) (q : D → Prop) : Prop := match d with
  | .obj c _ => c ∈ cs ∧ q (.bl false)
  | .ty _ => False
  | .cl _ => False
  | .dic _ _ => False
  | d => q (.bl (isBT n d))
def dIsT (n : BT) (cs : List Nat) (t : DE) : DE := fun env q x => t env (fun d => isTD n cs d q) x
theorem isT_ok {B : Tb} {H : Hp} {n : BT} {cs : List Nat} {d : D} {v : V} {q : D → Prop} (hc : ∀ c ∈ cs, InsOk B c ∧ PySem.W.kitOne B.K (.ref (B.C c)) (.type n.nm) = some false) (r : Rep B H d v) (h : isTD n cs d q) : ∃ t b, TyX B.K H v t ∧ PySem.W.kitOne B.K t (.type n.nm) = some b ∧ q (.bl b) := by
  cases d <;> first | exact h.elim | skip
  · exact ⟨_, _, rep_tyX r rfl, kit_ty (isBT_ok rfl), h⟩
  · exact ⟨_, _, rep_tyX r rfl, kit_ty (isBT_ok rfl), h⟩
  · exact ⟨_, _, rep_tyX r rfl, kit_ty (isBT_ok rfl), h⟩
  · exact ⟨_, _, rep_tyX r rfl, kit_ty (isBT_ok rfl), h⟩
  · exact ⟨_, _, rep_tyX r rfl, kit_ty (isBT_ok rfl), h⟩
  · exact ⟨_, _, rep_tyX r rfl, kit_ty (isBT_ok rfl), h⟩
  · obtain ⟨c1, c2⟩ := hc _ h.1
    exact ⟨_, _, rep_tyO c1 r, c2, h.2⟩
theorem xe_isT {n : BT} {cs : List Nat} {y1 : Str} {p1 : Pos} (hc : ∀ c ∈ cs, InsOk Λ.B c ∧ PySem.W.kitOne Λ.B.K (.ref (Λ.B.C c)) (.type n.nm) = some false) (hg : Gl X "isinstance") (hm : X.mg "isinstance" = none) (ha : XE X Λ w a t) (hT : PE X (.Name y1 p1) (tC (.ty n.nm)))
    (he : starEach [a, .Name y1 p1] X.env = (false, eval a X.env) :: starEach [.Name y1 p1] X.env := by rfl) (he2 : starEach [.Name y1 p1] X.env = (false, eval (.Name y1 p1) X.env) :: starEach [] X.env := by rfl) (hpl : (backTo pos (starEach [.Name y1 p1] X.env)).any (·.1) = false := by rfl) :
    XE X Λ w (.Call (.Name "isinstance" p) [a, .Name y1 p1] [] pos) (dIsT n cs t) := ⟨fun hK => by
  obtain ⟨r, p, s⟩ := ha.ex hK
  refine ⟨_, pe_callB call_isi hg hm bb_isinstance (pa_cons p (pa_cons hT pa_nil he2) he) (by decide) (by decide) he hpl, fun env W σ H Q q x S hx h k => s env W σ H _ _ x S hx h fun d v H1 h1 S1 e1 r1 => ?_⟩
  rw [hK]
  obtain ⟨t', b, h2, h3, h4⟩ := isT_ok hc (r1.up hid_le) h1
  exact ⟨v, _, t', _, b, rfl, .ty _, h2, h3, k _ _ H1 h4 S1 e1 rfl⟩⟩
def isCD (sub : List (Nat × Bool)) (d : D) (q : D → Prop) : Prop := match d with
  | .obj c _ => match sub.lookup c with
    | some b => q (.bl b)
    | none => False
  | .ty _ => False
  | .cl _ => False
  | .dic _ _ => False
  | _ => q (.bl false)
def dIsC (sub : List (Nat × Bool)) (t : DE) : DE := fun env q x => t env (fun d => isCD sub d q) x
def NotOf (B : Tb) (c : Nat) : Prop := ∀ m ∈ ["NoneType", "bool", "int", "str", "list", "tuple"], PySem.W.kitOne B.K (.type m) (.ref (B.C c)) = some false
theorem xe_isC {cc : Nat} {sub : List (Nat × Bool)} {y1 : Str} {p1 : Pos} (hn : NotOf Λ.B cc) (hc : ∀ c b, sub.lookup c = some b → InsOk Λ.B c ∧ PySem.W.kitOne Λ.B.K (.ref (Λ.B.C c)) (.ref (Λ.B.C cc)) = some b) (hg : Gl X "isinstance") (hm : X.mg "isinstance" = none) (ha : XE X Λ w a t) (hT : PE X (.Name y1 p1) (tC (.ref (Λ.B.C cc))))
    (he : starEach [a, .Name y1 p1] X.env = (false, eval a X.env) :: starEach [.Name y1 p1] X.env := by rfl) (he2 : starEach [.Name y1 p1] X.env = (false, eval (.Name y1 p1) X.env) :: starEach [] X.env := by rfl) (hpl : (backTo pos (starEach [.Name y1 p1] X.env)).any (·.1) = false := by rfl) :
    XE X Λ w (.Call (.Name "isinstance" p) [a, .Name y1 p1] [] pos) (dIsC sub t) := ⟨fun hK => by
  obtain ⟨r, p, s⟩ := ha.ex hK
  refine ⟨_, pe_callB call_isi hg hm bb_isinstance (pa_cons p (pa_cons hT pa_nil he2) he) (by decide) (by decide) he hpl, fun env W σ H Q q x S hx h k => s env W σ H _ _ x S hx h fun d v H1 h1 S1 e1 r1 => ?_⟩
  rw [hK]
  have r2 := r1.up (hid_le (G := Λ.G W) (H := H1))
  have fin : ∀ m b, d.bn = some m → PySem.W.kitOne Λ.B.K (.type m) (.ref (Λ.B.C cc)) = some b → q (.bl b) → rIsi Λ.B.K [v, .ref (Λ.B.C cc)] H1 Q := fun m b h2 h3 h4 => ⟨v, _, _, _, b, rfl, .own _, rep_tyX r2 h2, h3, k _ _ H1 h4 S1 e1 rfl⟩
  cases d <;> first | exact h1.elim | skip
  · exact fin _ _ rfl (hn _ (by decide)) h1
  · exact fin _ _ rfl (hn _ (by decide)) h1
  · exact fin _ _ rfl (hn _ (by decide)) h1
  · exact fin _ _ rfl (hn _ (by decide)) h1
  · exact fin _ _ rfl (hn _ (by decide)) h1
  · exact fin _ _ rfl (hn _ (by decide)) h1
  · have h1 : (match sub.lookup _ with
      | some b => q (.bl b)
      | none => False) := h1
    split at h1
    · rename_i b hb
      obtain ⟨c1, c2⟩ := hc _ _ hb
      exact ⟨v, _, _, _, b, rfl, .own _, rep_tyO c1 r2, c2, k _ _ H1 h1 S1 e1 rfl⟩
    · exact h1.elim⟩
def fmtD : D → (Str → Prop) → Prop
  | .str y, q => y.length ≤ 100000 ∧ q y
  | .int i, q => i.natAbs.log2 < 1920 ∧ q (toString i)
  | _, _ => False
def dFmt (t : DE) : DE := fun env q x => t env (fun d => fmtD d fun y => q (.str y)) x
theorem xe_fmt (he : XE X Λ w a t) : XE X Λ w (.FormattedValue a (-1) none pos) (dFmt t) := ⟨fun hK => by
  obtain ⟨r, p, s⟩ := he.ex hK
  refine ⟨_, pe_fmt p, fun env W σ H Q q x S hx h k => s env W σ H _ _ x S hx h fun d v H1 h1 S1 e1 r1 => ?_⟩
  cases d <;> first | exact h1.elim | skip
  · cases r1
    exact .inr ⟨_, rfl, h1.1, k _ _ H1 h1.2 S1 e1 rfl⟩
  · cases r1
    exact .inl ⟨_, rfl, sz h1.1, k _ _ H1 h1.2 S1 e1 rfl⟩⟩
def dJs : List DE → Str → List Sl → (Str → Prop) → (DX → Prop) → Prop
  | [], acc, _, q, _ => q acc
  | t :: ts, acc, env, q, x => t env (fun d => match d with
    | .str y => (acc ++ y).length ≤ 100000 ∧ dJs ts (acc ++ y) env q x
    | _ => False) x
inductive XJ (X : Cx) (Λ : Lx) (w : WX) : List Expr → List DE → Prop where
  | nil : XJ X Λ w [] []
  | cons {e : Expr} {es : List Expr} {t : DE} {ts : List DE} : XE X Λ w e t → XJ X Λ w es ts → XJ X Λ w (e :: es) (t :: ts)
inductive SndJ (Λ : Lx) (w : WX) : List TE → List DE → Prop where
  | nil : SndJ Λ w [] []
  | cons {r : TE} {rs : List TE} {t : DE} {ts : List DE} : Snd Λ w r t → SndJ Λ w rs ts → SndJ Λ w (r :: rs) (t :: ts)
theorem XJ.pj {es : List Expr} {ts : List DE} (h : XJ X Λ w es ts) (hK : X.K = Λ.B.K) : ∃ rs, PJ X es rs ∧ SndJ Λ w rs ts := by
  induction h with
  | nil => exact ⟨[], .nil, .nil⟩
  | cons h _ ih =>
    obtain ⟨rs, p, s⟩ := ih
    obtain ⟨r, p1, s1⟩ := h.ex hK
    exact ⟨r :: rs, .cons p1 p, .cons s1 s⟩
theorem snd_js {rs : List TE} {ts : List DE} (h : SndJ Λ w rs ts) : ∀ (acc : Str) (env : List Sl) (W : Ow) (σ : L2.St) (H : Hp) (Q : Str → Hp → Prop) (q : Str → Prop) (x : DX → Prop), StOk Λ env W σ H → XOk Λ w env W σ H x → dJs ts acc env q x →
    (∀ y H', q y → StOk Λ env W σ H' → Ev Λ W H H' → Q y H') → tJs rs acc σ H Q := by
  induction h with
  | nil => exact fun acc env W σ H Q q x S hx h k => k acc H h S .refl
  | cons s _ ih =>
    intro acc env W σ H Q q x S hx h k
    refine s env W σ H _ _ x S hx h fun d v H1 h1 S1 e1 r1 => ?_
    cases d <;> first | exact h1.elim | skip
    cases r1
    exact ⟨_, rfl, sz h1.1, ih _ env W σ H1 Q q x S1 (hx.on e1) h1.2 fun y H' a b c => k y H' a b (e1.trans c)⟩
def dJoined (ts : List DE) : DE := fun env q x => dJs ts Str.empty env (fun y => q (.str y)) x
theorem xe_joined {v1 v2 : Expr} {rest : List Expr} {ts : List DE} (h : XJ X Λ w (v1 :: v2 :: rest) ts) : XE X Λ w (.JoinedStr (v1 :: v2 :: rest) pos) (dJoined ts) := ⟨fun hK => by
  obtain ⟨rs, p, s⟩ := h.pj hK
  exact ⟨_, pe_joined p, fun env W σ H Q q x S hx h k => snd_js s Str.empty env W σ H _ _ x S hx h fun y H' a b c => k _ _ H' a b c rfl⟩⟩
theorem xe_joined1 {v1 : Expr} (h : XE X Λ w v1 t) : XE X Λ w (.JoinedStr [v1] pos) t := ⟨fun hK => by
  obtain ⟨r, p, s⟩ := h.ex hK
  exact ⟨_, pe_joined1 p, s⟩⟩
def dJoin (ta tb : DE) : DE := fun env q x => ta env (fun d => match d with
  | .str s => tb env (fun e => ∃ ys : List Str, (e = .lst (ys.map .str) ∨ e = .tup (ys.map .str)) ∧ (ys.map (·.length)).sum + ys.length * s.length ≤ 100000 ∧ q (.str (Txt.join s ys))) x
  | _ => False) x
theorem xe_join (ho : XE X Λ w o ta) (he : XE X Λ w e tb) (hs : starEach [e] X.env = [(false, eval e X.env)] := by rfl) (hbase : attributeBase o "join" X.env (eval o X.env) = eval o X.env := by rfl) (hline : (apos.endLine == pos.line) = true := by rfl) : XE X Λ w (.Call (.Attribute o "join" apos) [e] [] pos) (dJoin ta tb) := ⟨fun hK => by
  obtain ⟨r, p, s⟩ := ho.ex hK
  obtain ⟨r', p', s'⟩ := he.ex hK
  refine ⟨_, pe_join p p' hs hbase hline, fun env W σ H Q q x S hx h k => s env W σ H _ _ x S hx h fun d v H1 h1 S1 e1 r1 => ?_⟩
  cases d <;> first | exact h1.elim | skip
  rename_i z
  cases r1
  refine ⟨⟨z, rfl⟩, s' env W σ H1 _ _ x S1 (hx.on e1) h1 fun d2 v2 H2 h2 S2 e2 r2 => ?_⟩
  obtain ⟨ys, hy, hz, h2⟩ := h2
  have hz' : (ys.map (·.length)).sum + ys.length * z.length ≤ 16777216 := Nat.le_trans hz (by decide)
  rw [hK]
  rcases hy with rfl | rfl
  · obtain ⟨l, vs, rfl, h4, r4⟩ := rep_lst r2
    cases r4.strs
    exact ⟨z, l, ys, rfl, rfl, .inl (sqL_of h4), hz', k _ _ H2 h2 S2 (e1.trans e2) rfl⟩
  · obtain ⟨l, vs, rfl, h4, r4⟩ := rep_tup r2
    cases r4.strs
    exact ⟨z, l, ys, rfl, rfl, .inr h4, hz', k _ _ H2 h2 S2 (e1.trans e2) rfl⟩⟩
end
end Eb

namespace Eb
open PySem PySem.Spec PyProof.Rows L2 StX
section
variable {X : Cx} {Λ : Lx} {w : WX} {a b c e o : Expr} {es : List Expr} {ta tb tc t : DE} {tA tB : DT} {u : DA} {pos p apos : Pos} {k : Nat} {f : Addr} {fd : FuncData} {ps : List Str} {wp : DWI} {y : Str}
theorem made_same {H : Hp} {x dx : Addr} {C : Addr} (hx : H x = none) (hdx : H dx = none) : Same H (upd (upd H dx (.own x)) x (.ins C dx [])) := fun q o h => by
  rw [upd_ne (ne_of_none h hx), upd_ne (ne_of_none h hdx)]
  exact h
theorem make_i {env : List Sl} {W : Ow} {σ : L2.St} {H : Hp} {Q : VK} {q : D → Prop} {E : XK} {ds : List D} {vs : List V} {cc : Nat} {x dx : Addr} (S : StOk Λ env W σ H) (r : RepL Λ.B (Λ.vis W H) ds vs) (h : wp ds (fun fs => q (.obj cc fs)) (fun _ => False))
    (k : ∀ d v H', q d → StOk Λ env W σ H' → Ev Λ W H H' → Rep Λ.B (Λ.vis W H') d v → Q v H') (hx : H x = none) (hdx : H dx = none) (hne : dx ≠ x) :
    spI0 Λ.B cc wp (.ref x :: vs) (upd (upd H dx (.own x)) x (.ins (Λ.B.C cc) dx [])) (fun v H2 => v = .non ∧ Q (.ref x) H2) E := by
  have s1 := made_same (C := Λ.B.C cc) hx hdx
  have nx : ¬ Λ.G W x := S.fresh hx
  refine ⟨Λ.G W, ds, _, x, dx, vs, rfl, upd_same, nx, fun a g => some_mono s1 (hG S a g), r.up ?_, h, fun fs H' dy gs hq grow hp hn rl => ⟨rfl, ?_⟩⟩
  · intro a o ha
    obtain ⟨g, ha⟩ := hid_some.mp ha
    have n : a ≠ x := ne_of_none ha hx
    exact hid_some.mpr ⟨fun z => z.elim g n, s1 _ _ ha⟩
  · have s2 : Same H H' := fun a o ha => grow a o (ne_of_none ha hx) (s1 _ _ ha)
    refine k _ _ H' hq (S.grow s2) (.of s2) ⟨x, dy, gs, rfl, hid_some.mpr ⟨nx, hp⟩, hn, rl.up (hid_anti fun a g => .inl g)⟩
def dMk (cc : Nat) (wp : DWI) (u : DA) : DE := fun env q x => u env (fun ds => wp ds (fun fs => q (.obj cc fs)) (fun _ => False)) x
variable {kn : Str} {dv : V} {kws : List Keyword}
variable {nm : Option Str} {kpos p2 : Pos} {v1 s1 : Expr}
end
end Eb
namespace Eb
open PySem PySem.Spec PyProof.Rows L2 StX
section
variable {X : Cx} {Λ : Lx} {w : WX} {k : Nat} {f : Addr} {fd : FuncData} {ps : List Str} {wp : DW} {CX : CXT} {sp : Sp}
theorem raw0 {P : Program} {w' : World} {K : PySem.W.Frag} {mg : Str → Option Value} {base : Heap} (F : FnOk P w' K mg base CX k f fd ps sp) (hb : L2.Binds K fd ps []) : FnR P w' K mg base CX k f sp := by
  have h := F.raw hb (Paired.nil)
  have e : (fun vs H Q E => sp (vs ++ []) H Q E) = sp := by
    funext vs
    rw [List.append_nil]
  rw [e] at h
  exact h
end
end Eb

namespace Eb
open PySem PySem.Spec PyProof.Rows L2 StX
def sp_law (K : PySem.W.Frag) : Sp := fun vs H Q _ => ∃ (a : Addr) (ns : List Int), vs = [V.ref a] ∧ SqL K H a (ns.map V.int) ∧ ns.length ≤ 63 ∧ ∀ H', Q (.bl true) H'
def sp_dealer (K : PySem.W.Frag) : Sp := fun vs H Q _ => ∃ (a : Addr) (ns : List Int) (k : Int), vs = [V.ref a, .int k] ∧ SqL K H a (ns.map V.int) ∧ ns.length ≤ 63 ∧ 0 ≤ k ∧ k ≤ 1000 ∧ ∀ d l H', Same H H' → H d = none → H l = none → Deal H' d l → Q (.ref d) H'
section
variable {X : Cx} {B : Tb} {N : List Str} {first : Stmt} {rest : List Stmt} {t : DS} {kk : Int} {K : PySem.W.Frag} {H : Hp} {a : Addr} {ns : List Int} {Q : VK} {env : List Sl} {i : Nat}
theorem law_body (h1 : PS X first (tAsg (tCall (sp_dealer K) [] E0 (tCons (tVar 0) (tCons (tC (.int kk)) tNil))) (gName i))) (h2 : ∀ (Z M : Addr → Prop) (H0 : Hp) (dl : Option (Addr × Addr)), XSs X ⟨B, Z, M, H0, dl⟩ w0 rest t) (hK : X.K = B.K) (hs : SqL K H a (ns.map V.int)) (hn : ns.length ≤ 63)
    (k0 : 0 ≤ kk) (k1 : kk ≤ 1000) (he : env = (List.replicate N.length Sl.un).set i .dl) (hi : 1 ≤ N.length ∧ 0 < i) (hw : t env (endsF (fun d => d = .bl true) (fun _ => False))) (q : ∀ H', Q (.bl true) H') :
    ∃ ts, PSs X (first :: rest) ts ∧ ts { nx := fun _ H' => Q .non H', rt := Q } (L2.start N [.ref a]) H := by
  subst he
  obtain ⟨r, p, s⟩ : ∃ r, PSs X rest r ∧ ∀ (d l : Addr) (H' : Hp), Deal H' d l → r { nx := fun _ H' => Q .non H', rt := Q } ((L2.start N [.ref a]).set i (some (.ref d))) H' := by
    refine ⟨fun D σ H' => ∃ (d l : Addr), Deal H' d l ∧ D = { nx := fun _ H' => Q .non H', rt := Q } ∧ σ = (L2.start N [.ref a]).set i (some (.ref d)), ⟨fun pins s σ H' D I ⟨d, l, D0, eD, eσ⟩ => ?_⟩, fun d l H' D0 => ⟨d, l, D0, rfl, rfl⟩⟩
    subst eD eσ
    have S0 : StOk ⟨B, fun _ => False, fun x => x = d ∨ x = l, H', some (d, l)⟩ ((List.replicate N.length Sl.un).set i .dl) (fun _ => none) ((L2.start N [.ref a]).set i (some (.ref d))) H' := by
      refine ⟨by rw [List.length_set, List.length_set, List.length_replicate, start_len (by simpa using hi.1)], fun j sl e => ?_, fun a o _ h => h, fun a m => ?_, fun a z => z.elim, (fun i p e => by cases e), (fun i j p e => by cases e), fun d' l' e => ?_, ⟨0, fun _ _ => rfl⟩⟩
      · by_cases c : j = i
        · subst c
          have hj : j < (List.replicate N.length Sl.un).length := by
            have := (List.getElem?_eq_some_iff.mp e).1
            rwa [List.length_set] at this
          rw [List.getElem?_set_self hj] at e
          cases e
          refine ⟨d, l, rfl, List.getElem?_set_self ?_⟩
          rw [start_len (by simpa using hi.1)]
          simpa using hj
        · rw [List.getElem?_set_ne (Ne.symm c)] at e
          obtain ⟨h3, e⟩ := List.getElem?_eq_some_iff.mp e
          rw [List.getElem_replicate] at e
          subst e
          trivial
      · rcases m with rfl | rfl
        · exact D0.none _ (by simp)
        · exact D0.none _ (by simp)
      · cases e
        exact ⟨D0, .inl rfl, .inr rfl, fun i => ⟨by simp, by simp⟩⟩
    have L0 : Lnk ⟨B, fun _ => False, fun x => x = d ∨ x = l, H', some (d, l)⟩ w0 (fun _ => none) H' { nx := fun _ H' => Q .non H', rt := Q } (endsF (fun d => d = .bl true) (fun _ => False)) := by
      refine ⟨fun _ _ _ _ z => ?_, fun _ _ _ _ z => z.elim, fun _ _ _ _ z => z.elim, fun dd v env' W' σ' H2 z S' rp => ?_, fun _ _ _ _ _ _ _ z => z.elim⟩
      · have z : D.non = D.bl true := z
        cases z
      · have z : dd = .bl true := z
        subst z
        cases (show v = .bl true from rp)
        exact q _
    obtain ⟨ts, p1, s1⟩ := run_body (h2 (fun _ => False) (fun x => x = d ∨ x = l) H' (some (d, l))) hK S0 L0 hw
    exact p1.run pins s _ H' _ I s1
  refine ⟨_, pss_cons h1 p, ?_⟩
  refine ⟨.ref a, start_get (vs := [.ref a]) (i := 0) (by simp), ?_⟩
  exact ⟨a, ns, kk, rfl, hs, hn, k0, k1, fun d l H' _ _ _ D0 => s d l H' D0⟩
end
theorem draw_g {P : Program} {w' : World} {K : PySem.W.Frag} {mg : Str → Option Value} {base : Heap} {k : Nat} {f : Addr} {fd : FuncData} {ps : List Str} {B : Tb} {sp : Sp}
    (hsp : sp = fun vs H Q _ => ∃ (d l : Addr) (n : Int), vs = [V.ref d, .int n] ∧ Deal H d l ∧ 0 < n ∧ Sm n ∧ ∀ r H', 0 ≤ r → r < n → Drew d l H H' → Q (.int r) H') (hl : ps.length = 2) (F : FnOk P w' K mg base CX0 k f fd ps sp) : FnOk P w' K mg base CX0 k f fd ps (spG0 B wpDraw) := by
  have imp : ∀ vs H Q E, spG0 B wpDraw vs H Q E → sp vs H Q E := fun vs H Q E ⟨Z, ds, q, d, l, vr, e, D0, hZ, r, h, kq⟩ => by
    subst hsp e
    unfold wpDraw at h
    split at h
    · obtain ⟨v, rfl, r1⟩ := r.one_inv
      cases r1
      exact ⟨d, l, _, rfl, D0, h.1, h.2.1, fun r' H' a b c => kq _ _ H' (h.2.2 r' a b) c rfl⟩
    · exact h.elim
  exact ⟨fun vs H Q E h => F.len vs H Q E (imp vs H Q E h), fun A outer s H args us vs Q E hr e0 hb r hs => F.run A outer s H args us vs Q E hr e0 hb r (imp vs H Q E hs)⟩
end Eb

namespace Eb
open PySem PySem.Spec PyProof.Rows L2 StX
section
variable {X : Cx} {Λ : Lx} {w : WX} {a b c e o : Expr} {es : List Expr} {ta tb tc t : DE} {u : DA} {pos p apos : Pos} {k : Nat} {f : Addr} {fd : FuncData} {ps : List Str} {wp : DW} {y : Str}
def rStrOwn (C : Addr) (sp : Sp) (E : XK) : List V → Hp → VK → Prop := fun xs H Q => ∃ a, xs = [V.ref a] ∧ InsO H a C ∧ sp [.ref a] H (fun z H' => ∃ i, z = .str i ∧ Q z H') E
theorem call_strOwn {CX : CXT} {n : Nat} {C g : Addr} {sp : Sp} {E : XK} (hs : PySem.W.findIn X.K (.ref C) "__str__" = some (some (.ref g))) (hf : PySem.W.isFn X.K (.ref g) = true) (F : FnR X.prog X.w X.K X.mg X.base CX n g sp) (hr : Room (n + 2) X.A) (hu : X.A.units + 64 < cLine) (hx : Passes CX X E) : CallR X (.type "str") (rStrOwn C sp E) := by
  intro pins s σ H xs us Q I r h
  obtain ⟨a, rfl, hsl, q⟩ := h
  obtain ⟨u, rfl, ru⟩ := r.one
  cases (show u = Value.ref a from ru)
  obtain ⟨ox, od, J⟩ := insO_at I hsl
  have hr2 : Room n X.A.in1.in1 := (show Room (n + 1) X.A.in1 from Room.in1 hr).in1
  refine PySem.W.kso_call (by simp only [Around.in1_units]; omega) I.kIn J hs hf (wpAny_mono (wpAny_call (SlX.run_at (us := [.ref a]) (ws := [.ref a]) F hr2 I.env0.in1.in1 hx I (.cons rfl .nil) q)) (fun w s' z => ?_) fun _ _ x => x)
  obtain ⟨z', H', I', rz, i, ei, qz⟩ := z
  subst ei
  obtain ⟨t, e⟩ := (show ∃ t, w = Value.str i t from rz)
  cases e
  exact ⟨.str i, H', I', ⟨t, rfl⟩, qz⟩
def strOD (c : Nat) (wp : DW) : List D → DK := fun ds q _ => match ds with
  | [.obj c' fs] => c' = c ∧ wp [.obj c' fs] (fun z => match z with
    | .str i => q (.str i)
    | _ => False) (fun _ => False)
  | _ => False
theorem snd_strO {cc : Nat} {E : XK} : SndC Λ w (rStrOwn (Λ.B.C cc) (spF0 Λ.B wp) E) (strOD cc wp) := fun env W σ H ds vs Q q x S hx r h k => by
  unfold strOD at h
  split at h
  · obtain ⟨v, rfl, r1⟩ := r.one_inv
    obtain ⟨rfl, h⟩ := h
    obtain ⟨a, rfl, hi⟩ := rep_ins r1
    refine ⟨a, rfl, hi, call0 S (RepL.one r1) h fun d v H' hq S' e' r' => ?_⟩
    cases d <;> first | exact hq.elim | skip
    cases r'
    exact ⟨_, rfl, k _ _ H' hq S' e' rfl⟩
  · exact h.elim
theorem thaw {env : List Sl} {W : Ow} {σ : L2.St} {H H' : Hp} {i : Nat} {ds : List D} (S : StOk Λ env W σ H) (hd : env[i]? = some (.ow ds)) (S' : StOk Λ (env.set i (.va (.lst ds))) (wput W i none) σ H') (e : Ev Λ (wput W i none) H H') : StOk Λ env W σ H' ∧ Ev Λ W H H' := by
  obtain ⟨p, vs, h0, h1, h2, h3, h4⟩ := S.sl i _ hd
  have nG : ¬ Λ.G (wput W i none) p := by
    rintro (z | z | ⟨j, z⟩)
    · exact (S.wx i p h0).2.1 z
    · exact h4 z
    · by_cases q : j = i
      · rw [wput_same q] at z; cases z
      · rw [wput_ne q] at z; exact q (S.wi j i p z h0)
  have up : ∀ a, Λ.G (wput W i none) a → Λ.G W a := by
    rintro a (z | z | ⟨j, z⟩)
    · exact .inl z
    · exact .inr (.inl z)
    · by_cases q : j = i
      · rw [wput_same q] at z; cases z
      · rw [wput_ne q] at z; exact .inr (.inr ⟨j, z⟩)
  have hp : ∀ o, H p = some o → H' p = some o := fun o ho => hid_le _ _ (e.vis p o (hid_some.mpr ⟨nG, ho⟩))
  have ev : Ev Λ W H H' := by
    refine ⟨fun a o h => ?_, fun j q o hw ho => ?_, e.all⟩
    · obtain ⟨g, h⟩ := hid_some.mp h
      exact hid_some.mpr ⟨g, hid_le _ _ (e.vis a o (hid_some.mpr ⟨fun z => g (up a z), h⟩))⟩
    · by_cases c : j = i
      · subst c
        rw [h0] at hw
        cases hw
        exact hp o ho
      · exact e.own j q o (by rw [wput_ne c]; exact hw) ho
  refine ⟨⟨by have := S'.len; rw [List.length_set] at this; exact this, fun j x hj => (S.sl j x hj).mono ev.vis ev.own, S'.fr, S'.mx, S'.zx, fun j q hw => ⟨ev.all q (S.wx j q hw).1, (S.wx j q hw).2⟩, S.wi, fun d l ed => ?_, S.wf⟩, ev⟩
  obtain ⟨a1, a2, a3, _⟩ := S'.dl d l ed
  exact ⟨a1, a2, a3, (S.dl d l ed).2.2.2⟩
end
end Eb

namespace Eb
open PySem PySem.Spec PyProof.Rows L2 StX
end Eb

namespace Eb
open PySem PySem.Spec PyProof.Rows L2 StX
section
variable {X : Cx} {Λ : Lx} {w : WX} {a b c e o : Expr} {es : List Expr} {ta tb tc t : DE} {u : DA} {pos p apos : Pos} {k : Nat} {f g : Addr} {fd : FuncData} {ps : List Str} {wp wr : DW} {y : Str}
theorem fnIn_of {x qual : Str} {st : Stmt} (F : Fun X.K x qual st f fd) : PySem.W.fnIn X.K f = true := by
  obtain ⟨oc, od, kV, doc, pm, an, cdv, ct, osl, e, lk, hcd⟩ := F.ex
  unfold PySem.W.fnIn
  rw [lk]
end
end Eb

namespace Eb
open PySem PySem.Spec PyProof.Rows L2 StX
section
variable {X : Cx} {Λ : Lx} {w : WX} {a b c e o : Expr} {es : List Expr} {ta tb tc t : DE} {tA tB : DT} {u : DA} {pos p apos : Pos} {k : Nat} {f : Addr} {fd : FuncData} {ps : List Str} {wp : DW} {y : Str}
def SndP (Λ : Lx) (trs : List (TE × TE)) (ks : List Str) (u : DA) : Prop := ∀ env W σ H (Q : List (V × V) → Hp → Prop) q, StOk Λ env W σ H → u env q (fun _ => False) →
  (∀ ds vs H', q ds → StOk Λ env W σ H' → Ev Λ W H H' → RepL Λ.B (Λ.vis W H') ds vs → Q ((ks.map V.str).zip vs) H') → tPairs trs σ H Q
structure XP (X : Cx) (Λ : Lx) (pos : Pos) (keys : List (Option Expr)) (values : List Expr) (ks : List Str) (u : DA) : Prop where
  ex : X.K = Λ.B.K → ∃ trs, PPs X pos keys values trs ∧ SndP Λ trs ks u
theorem xp_nil : XP X Λ pos [] [] [] dNil := ⟨fun _ => ⟨[], pps_nil, fun env W σ H Q q S h k => k [] [] H h S .refl rfl⟩⟩
theorem xp_cons {kx : Str} {j : Nat} {kp : Pos} {v : Expr} {keys : List (Option Expr)} {values : List Expr} {ks : List Str} {u : DA} (hv : XE X Λ w0 v t) (hr : XP X Λ pos keys values ks u) : XP X Λ pos (some (.Constant (.str kx) j kp) :: keys) (v :: values) (kx :: ks) (dCons t u) := ⟨fun hK => by
  obtain ⟨r, p, s⟩ := hv.ex hK
  obtain ⟨trs, p', s'⟩ := hr.ex hK
  refine ⟨_, pps_cons pe_str p p', fun env W σ H Q q S h k => ?_⟩
  refine s env W σ H _ _ _ S (fun _ _ _ _ z => z.elim) h fun d v H1 h1 S1 e1 r1 => ?_
  refine s' env W σ H1 _ _ S1 h1 fun ds vs H2 h2 S2 e2 r2 => ?_
  exact k (d :: ds) (v :: vs) H2 h2 S2 (e1.trans e2) (RepL.cons (r1.up e2.vis) r2)⟩
theorem xss_never : ∀ sts : List Stmt, sts ≠ [] → XSs X Λ w sts dNever
  | [], h => (h rfl).elim
  | [st], _ => xss_one xs_never
  | st :: s2 :: sts, _ => by
    have h := xss_cons (X := X) (Λ := Λ) (w := w) (st := st) xs_never (xss_never (s2 :: sts) (by simp))
    refine ⟨fun hK => ?_⟩
    obtain ⟨r, p, s⟩ := h.ex hK
    exact ⟨r, p, fun env W σ H E e S L z => s env W σ H E e S L z⟩
end
end Eb

namespace Eb
open PySem PySem.Spec PyProof.Rows L2
section
variable {g : DG} {b : DS} {e : DEnds} {env : List Sl} {α : Type}
theorem loop_by (P : Nat → List Sl → Prop) : ∀ (ds : List D) (i : Nat) (env : List Sl), P i env →
    (∀ k d env (N : List Sl → Prop), ds[k]? = some d → P (i + k) env → (∀ env', P (i + k + 1) env' → N env') → g d env fun env' => b env' { e with nx := N, ct := N, bk := e.nx }) → (∀ env, P (i + ds.length) env → e.nx env) → loopD g b e ds env
  | [], i, env, h0, _, hd => hd env h0
  | d :: ds, i, env, h0, hs, hd => by
    unfold loopD
    refine hs 0 d env (loopD g b e ds) rfl h0 fun env' h1 => ?_
    refine loop_by P ds (i + 1) env' h1 (fun k d' env2 N hk hp hN => ?_) fun env2 hp => hd env2 ?_
    · have e1 : i + 1 + k = i + (k + 1) := by omega
      rw [e1] at hp hN
      exact hs (k + 1) d' env2 N (by simpa using hk) hp hN
    · have e1 : i + 1 + ds.length = i + (d :: ds).length := by simp; omega
      rw [e1] at hp
      exact hp
theorem loop_pre {φ : α → D} (P : List α → List Sl → Prop) (all : List α) : ∀ (xs pre : List α) (env : List Sl), all = pre ++ xs → P pre env →
    (∀ pre x suf env (N : List Sl → Prop), all = pre ++ x :: suf → P pre env → (∀ env', P (pre ++ [x]) env' → N env') → g (φ x) env fun env' => b env' { e with nx := N, ct := N, bk := e.nx }) → (∀ env, P all env → e.nx env) → loopD g b e (xs.map φ) env
  | [], pre, env, ha, h0, _, hd => hd env (by rw [ha, List.append_nil]; exact h0)
  | x :: xs, pre, env, ha, h0, hs, hd => by
    rw [List.map_cons]
    unfold loopD
    refine hs pre x xs env (loopD g b e (xs.map φ)) ha h0 fun env' h1 => ?_
    exact loop_pre P all xs (pre ++ [x]) env' (by rw [ha]; simp) h1 hs hd
theorem loop_map {φ : α → D} (P : List α → List Sl → Prop) (xs : List α) (h0 : P [] env)
    (hs : ∀ pre x suf env (N : List Sl → Prop), xs = pre ++ x :: suf → P pre env → (∀ env', P (pre ++ [x]) env' → N env') → g (φ x) env fun env' => b env' { e with nx := N, ct := N, bk := e.nx }) (hd : ∀ env, P xs env → e.nx env) : loopD g b e (xs.map φ) env := loop_pre P xs xs [] env rfl h0 hs hd
theorem loop_range (P : Nat → List Sl → Prop) {lo : Int} {n : Nat} (h0 : P 0 env) (hs : ∀ k env (N : List Sl → Prop), k < n → P k env → (∀ env', P (k + 1) env' → N env') → g (.int (lo + (k : Int))) env fun env' => b env' { e with nx := N, ct := N, bk := e.nx })
    (hd : ∀ env, P n env → e.nx env) : loopD g b e (rgD lo n) env := by
  refine loop_by P (rgD lo n) 0 env h0 (fun k d env N hk hp hN => ?_) fun env hp => hd env (by rw [rgD_len, Nat.zero_add] at hp; exact hp)
  rw [Nat.zero_add] at hp hN
  have hk' : k < n := by
    have := (List.getElem?_eq_some_iff.mp hk).1
    rwa [rgD_len] at this
  simp only [rgD, List.getElem?_map, List.getElem?_range hk', Option.map_some, Option.some.injEq] at hk
  subst hk
  exact hs k env N hk' hp hN
end
section
variable {g : DG} {b : DS} {e : DEnds} {env : List Sl} {α : Type}
theorem for_map {φ : α → D} (P : List α → List Sl → Prop) (xs : List α) (h0 : P [] env)
    (hs : ∀ pre x suf env (e' : DEnds), xs = pre ++ x :: suf → P pre env → e'.rt = e.rt → e'.bk = e.nx → e'.ex = e.ex → e'.ct = e'.nx → (∀ env', P (pre ++ [x]) env' → e'.nx env') → g (φ x) env fun env' => b env' e') (hd : ∀ env, P xs env → e.nx env) : loopD g b e (xs.map φ) env :=
  loop_map P xs h0 (fun pre x suf env N hx hp hN => hs pre x suf env { e with nx := N, ct := N, bk := e.nx } hx hp rfl rfl rfl rfl hN) hd
theorem for_range (P : Nat → List Sl → Prop) {lo : Int} {n : Nat} (h0 : P 0 env) (hs : ∀ k env (e' : DEnds), k < n → P k env → e'.rt = e.rt → e'.bk = e.nx → e'.ex = e.ex → e'.ct = e'.nx → (∀ env', P (k + 1) env' → e'.nx env') → g (.int (lo + (k : Int))) env fun env' => b env' e')
    (hd : ∀ env, P n env → e.nx env) : loopD g b e (rgD lo n) env :=
  loop_range P h0 (fun k env N hx hp hN => hs k env { e with nx := N, ct := N, bk := e.nx } hx hp rfl rfl rfl rfl hN) hd
end
section
variable {g : DG} {t : DT} {u : DE} {env : List Sl} {q : List D → Prop} {α : Type}
theorem lc_filter {φ : α → D} (p : α → Bool) (f : α → D) : ∀ (xs : List α) (acc : List D), (∀ x ∈ xs, ∀ (k : D → Prop) (n : Prop), (p x = true → k (f x)) → (p x = false → n) → g (φ x) env fun env' => t env' (fun b => iteB b (u env' k (fun _ => False)) n) (fun _ => False)) →
    acc.length + xs.length ≤ 100000 → q (acc ++ (xs.filter p).map f) → lcD g t u env q (xs.map φ) acc
  | [], acc, _, _, h => by
    unfold lcD
    simpa using h
  | x :: xs, acc, hs, hl, h => by
    rw [List.length_cons] at hl
    rw [List.map_cons]
    unfold lcD
    refine hs x (by simp) _ _ (fun hp => ?_) fun hp => ?_
    · refine ⟨by omega, lc_filter p f xs (acc ++ [f x]) (fun y hy => hs y (List.mem_cons_of_mem _ hy)) (by simp; omega) ?_⟩
      rw [List.filter_cons_of_pos hp, List.map_cons] at h
      simpa using h
    · refine lc_filter p f xs acc (fun y hy => hs y (List.mem_cons_of_mem _ hy)) (by omega) ?_
      rw [List.filter_cons_of_neg (by rw [hp]; exact Bool.false_ne_true)] at h
      exact h
theorem lc_any {φ : α → D} (R : D → Prop) : ∀ (xs : List α) (acc : List D), (∀ x ∈ xs, ∀ (k : D → Prop) (n : Prop), (∀ d, R d → k d) → g (φ x) env fun env' => t env' (fun b => iteB b (u env' k (fun _ => False)) n) (fun _ => False)) →
    acc.length + xs.length ≤ 100000 → (∀ d ∈ acc, R d) → (∀ ds : List D, ds.length = acc.length + xs.length → (∀ d ∈ ds, R d) → q ds) → lcD g t u env q (xs.map φ) acc
  | [], acc, _, _, ha, h => by
    unfold lcD
    exact h acc (by simp) ha
  | x :: xs, acc, hs, hl, ha, h => by
    rw [List.length_cons] at hl h
    rw [List.map_cons]
    unfold lcD
    refine hs x (by simp) _ _ fun d hd => ⟨by omega, lc_any R xs (acc ++ [d]) (fun y hy => hs y (List.mem_cons_of_mem _ hy)) (by simp; omega) (fun e he => ?_) fun ds hds => h ds (by rw [hds]; simp; omega)⟩
    rcases List.mem_append.mp he with z | z
    · exact ha e z
    · rw [List.mem_singleton.mp z]; exact hd
theorem lc_map {φ : α → D} (f : α → D) (xs : List α) (hs : ∀ x ∈ xs, ∀ (k : D → Prop) (n : Prop), k (f x) → g (φ x) env fun env' => t env' (fun b => iteB b (u env' k (fun _ => False)) n) (fun _ => False)) (hl : xs.length ≤ 100000) (h : q (xs.map f)) : lcD g t u env q (xs.map φ) [] :=
  lc_filter (fun _ => true) f xs [] (fun x hx k n h1 _ => hs x hx k n (h1 rfl)) (by simpa using hl) (by rw [List.nil_append, List.filter_eq_self.mpr (by simp)]; exact h)
theorem rgD_map (lo : Int) (n : Nat) : rgD lo n = (List.range n).map fun (i : Nat) => D.int (lo + (i : Int)) := rfl
end
theorem seq_by {t u : DS} {env : List Sl} {e : DEnds} (J : List Sl → Prop) (h : ∀ e' : DEnds, e'.rt = e.rt → e'.bk = e.bk → e'.ct = e.ct → e'.ex = e.ex → (∀ env', J env' → e'.nx env') → t env e') (k : ∀ env', J env' → u env' e) : dSeq t u env e :=
  h { e with nx := fun env' => u env' e } rfl rfl rfl rfl k
theorem seq2 {a b u : DS} {env : List Sl} {e : DEnds} (J : List Sl → Prop) (h : ∀ e' : DEnds, e'.rt = e.rt → e'.bk = e.bk → e'.ct = e.ct → e'.ex = e.ex → (∀ env', J env' → e'.nx env') → (dSeq a b) env e') (k : ∀ env', J env' → u env' e) : (dSeq a (dSeq b u)) env e := seq_by (t := dSeq a b) J h k
theorem seq3 {a b c u : DS} {env : List Sl} {e : DEnds} (J : List Sl → Prop) (h : ∀ e' : DEnds, e'.rt = e.rt → e'.bk = e.bk → e'.ct = e.ct → e'.ex = e.ex → (∀ env', J env' → e'.nx env') → (dSeq a (dSeq b c)) env e') (k : ∀ env', J env' → u env' e) : (dSeq a (dSeq b (dSeq c u))) env e := seq_by (t := dSeq a (dSeq b c)) J h k
theorem atI_at {α : Type} {xs : List α} {k : Nat} {z : α} {i : Int} (hi : i = k) (h : xs[k]? = some z) : atI xs i = some z := by
  subst hi
  unfold atI ixN
  have hk := (List.getElem?_eq_some_iff.mp h).1
  rw [if_pos (by omega), if_pos (by omega)]
  exact h
theorem cut_take {α : Type} (zs : List α) (k : Nat) : cutL zs none (some (k : Int)) = zs.take k := by
  unfold cutL
  rw [HT.sIx_none, show HT.sIx zs.length zs.length (some (k : Int)) = min k zs.length from HT.sIx_nat _ _ k]
  rw [List.drop_zero, Nat.sub_zero]
  exact (List.take_eq_take_min ..).symm
theorem cut_drop {α : Type} (zs : List α) (k : Nat) : cutL zs (some (k : Int)) none = zs.drop k := by
  unfold cutL
  rw [HT.sIx_none, show HT.sIx zs.length 0 (some (k : Int)) = min k zs.length from HT.sIx_nat _ _ k]
  rw [List.take_of_length_le (by rw [List.length_drop]; omega)]
  by_cases c : k ≤ zs.length
  · rw [Nat.min_eq_left c]
  · rw [Nat.min_eq_right (by omega), List.drop_of_length_le (by omega), List.drop_of_length_le (by omega)]

theorem snoc {α : Type} (r : List α) : r = [] ∨ ∃ l z, r = l ++ [z] := by
  cases h : r.getLast? with
  | none => exact .inl (List.getLast?_eq_none_iff.mp h)
  | some z =>
    obtain ⟨l, rfl⟩ := List.getLast?_eq_some_iff.mp h
    exact .inr ⟨l, z, rfl⟩
theorem log_of {n : Int} (h : Sm n) : n.natAbs.log2 < 1920 := by
  unfold Sm at h
  by_cases c : n.natAbs = 0
  · rw [c]; decide
  · exact Nat.lt_trans ((Nat.log2_lt c).mpr h) (by decide)
theorem sm_lil {n : Int} (h1 : -1000000000000 ≤ n) (h2 : n ≤ 1000000000000) : Sm n := by
  unfold Sm
  have : 10 ^ 12 < 2 ^ 1900 := by decide +kernel
  omega
end Eb

namespace Eb
namespace HK
open PySem PySem.Spec PyProof.Rows L2
section
variable {chk : Fg → Bool} {fns : List Dq} {tabs : List Tab} {w : World} {K : Fg}
theorem Says.chk_ (c : Says chk fns tabs w K) : chk K = true := congrArg (fun z : Al => z.1) c
theorem Says.fn_ (c : Says chk fns tabs w K) (i : Nat) {d : Dq} (h : fns[i]? = some d := by rfl) : fnW K d.ad = d.val := by
  have e : fns.map (fun d => fnW K d.ad) = fns.map Dq.val := congrArg (fun z : Al => z.2.1) c
  have e2 : (fns.map fun d => fnW K d.ad)[i]? = (fns.map Dq.val)[i]? := by rw [e]
  rw [List.getElem?_map, List.getElem?_map, h] at e2
  exact Option.some.inj e2
theorem Says.tab_ (c : Says chk fns tabs w K) (i : Nat) {t : Tab} (h : tabs[i]? = some t := by rfl) : ∃ es n, KDict K w t.1 es n := by
  have e : tabs.map (fun t => He.dicW K t.1) = tabs.map fun t => some (He.keysIn w.params t.2) := congrArg (fun z : Al => z.2.2) c
  have e2 : (tabs.map fun t => He.dicW K t.1)[i]? = (tabs.map fun t => some (He.keysIn w.params t.2))[i]? := by rw [e]
  rw [List.getElem?_map, List.getElem?_map, h] at e2
  exact He.dicW_ok (Option.some.inj e2)
theorem look {bs : List Bool} (h : bs.all id = true) (i : Nat) {b : Bool} (e : bs[i]? = some b := by rfl) : b = true := List.all_eq_true.mp h b (List.mem_of_getElem? e)
theorem ba {a b : Bool} (h : (a && b) = true) : a = true ∧ b = true := Bool.and_eq_true_iff.mp h
end
theorem eqO_ok {a b : Option (Option Value)} (h : eqO a b = true) : a = b := of_decide_eq_true h
section
variable {K : Fg} {h : Heap} {mg : Str → Option Value} {C f p : Addr}
theorem glo_ok (X : K.In h) (G : h.Ns mainGlobals mg) {x : Str} (c : gloB K x f = true) : mg x = some (.ref f) := PySem.W.mg_of X G (eqO_ok c)
theorem free_ok (X : K.In h) (G : h.Ns mainGlobals mg) {x : Str} (c : freeB K x = true) : mg x = none := PySem.W.mg_none_of X G (eqO_ok c)
theorem con_ok (X : K.In h) (G : h.Ns mainGlobals mg) {x : Str} {v : V} (c : conB K x v = true) : ∃ u, mg x = some u ∧ RelV v u := by
  unfold conB at c
  split at c
  · rename_i u e
    exact ⟨u, PySem.W.mg_of X G e, He.relB_ok c⟩
  · cases c
theorem cls_ok (c : clsB K C = true) : Cls K C := by
  obtain ⟨c1, c⟩ := ba c
  obtain ⟨c2, c⟩ := ba c
  obtain ⟨c3, c4⟩ := ba c
  exact ⟨c1, c2, c3, eqO_ok c4⟩
theorem noa_ok {x : Str} (c : noaB K C x = true) : NoAttr K C x := eqO_ok c
theorem met_ok {m : Str} (c : metB K C m f = true) : Meth K C m f := by
  obtain ⟨c1, c⟩ := ba c
  obtain ⟨c2, c3⟩ := ba c
  exact ⟨eqO_ok c1, c2, c3⟩
theorem mk_ok (c : mkB K C f = true) : Mk K C f := by
  obtain ⟨c1, c⟩ := ba c
  obtain ⟨c2, c⟩ := ba c
  obtain ⟨c3, c4⟩ := ba c
  exact ⟨c1, eqO_ok c2, c3, c4⟩
theorem exc_ok (c : excB K C = true) : ExcC K C := by
  obtain ⟨c1, c⟩ := ba c
  obtain ⟨c2, c⟩ := ba c
  obtain ⟨c3, c⟩ := ba c
  obtain ⟨c4, c⟩ := ba c
  obtain ⟨c5, c⟩ := ba c
  obtain ⟨c6, c⟩ := ba c
  obtain ⟨c7, c8⟩ := ba c
  exact ⟨eqO_ok c1, eqO_ok c2, of_decide_eq_true c3, c4, eqO_ok c5, eqO_ok c6, of_decide_eq_true c7, of_decide_eq_true c8⟩
theorem exm_ok {D : Addr} {b : Bool} (c : exmB K C D b = true) : PySem.W.exmOne K (.ref C) (.ref D) = some b := of_decide_eq_true c
theorem kit_ok {t c : Value} {b : Bool} (h : kitB K t c b = true) : PySem.W.kitOne K t c = some b := of_decide_eq_true h
end
end HK
end Eb
namespace Eb
namespace HK
open PySem PySem.Spec PyProof.Rows L2
theorem bind1 {K : Fg} {x qual : Str} {st : Stmt} {f : Addr} {fd : FuncData} {y : Str} (F : Fun K x qual st f fd)
    (h : ∀ (kV doc pm : Value) (an : Option Addr) (cdv ct u : Value), bindArgs (PySem.W.fnOf x qual (defArgs st) (defBody st) (defScope st) .none kV doc pm an cdv ct) ⟨[u], []⟩ = pure [(y, u)]) : ∀ (s : Shared) (u : Value), BindsTo s fd ⟨[u], []⟩ [(y, u)] := fun s u => by
  obtain ⟨oc, od, kV, doc, pm, an, cdv, ct, osl, rfl, _⟩ := F.ex
  exact .of_eq (h kV doc pm an cdv ct u)
end HK
end Eb

namespace Eb
open PySem PySem.Spec PyProof.Rows L2
set_option maxRecDepth 100000
end Eb

namespace Eb
open PySem PySem.Spec PyProof.Rows L2 StX
end Eb

namespace PySem
namespace SupX
open PySem.W PySem.Calls PyProof.Rows PySem.HandSPX
structure BsOk (b : Bs) : Prop where
  F : ExcBaseFacts b.B b.newId b.initId b.bm
  KF : KxsFacts b.B b.initId
  S : StoreFacts b.B b.bm "object.__setattr__" "object"
theorem vE_ok : BsOk vE := ⟨F.excBase_ValueError, kxs_ValueError, F.store_ValueError⟩
theorem iE_ok : BsOk iE := ⟨F.excBase_IndexError, kxs_IndexError, F.store_IndexError⟩
theorem refsT_cases {b : List Value} : ∀ l : List Value, refsT b l = true → (∃ c r, l = .ref c :: r ∧ refsT b r = true) ∨ l = b
  | [], e => .inr (beq_iff_eq.mp e)
  | v :: r, e => by
    cases v with
    | ref c => exact .inl ⟨c, r, rfl, e⟩
    | _ => exact .inr (beq_iff_eq.mp e)
theorem refsT_pass {b : List Value} (hb : ∀ self : Value, refuseLoop self "__setattr__" b = pure ()) (self : Value) : ∀ l : List Value, refsT b l = true → refuseLoop self "__setattr__" l = pure () := by
  intro l
  induction l with
  | nil =>
    intro e
    rw [show [] = b from beq_iff_eq.mp e]
    exact hb self
  | cons a r ih =>
    intro e
    rcases refsT_cases (a :: r) e with ⟨c, r', q, h⟩ | q
    · obtain ⟨rfl, rfl⟩ := List.cons.inj q
      rw [refuseLoop_ref]; exact ih h
    · rw [q]; exact hb self
theorem refsT_contains {b : List Value} (X : String) : ∀ l : List Value, refsT b l = true → l.contains (.type X) = b.contains (.type X) := by
  intro l
  induction l with
  | nil => intro e; rw [show [] = b from beq_iff_eq.mp e]
  | cons a r ih =>
    intro e
    rcases refsT_cases (a :: r) e with ⟨c, r', q, h⟩ | q
    · obtain ⟨rfl, rfl⟩ := List.cons.inj q
      rw [List.contains_cons, ih h]; rfl
    · rw [q]
open Builtin Builtin.ObjectAttr in
theorem osaT {prog : Program} {w : World} {A : Around} {R : Result → Shared → Prop} {hp : Heap} {g : Array GenState} {d : Drawn} {t : Nat} {os : OsState} {b : Bs} (ok : BsOk b) {K : W.Frag} {name : Str} {tk : Tok} {v : Value} {x C : Addr} {fv : Array Value} {cd : ClassData}
    (X : K.In hp) (hx : hp.get? x = some { cls := .ref C, data := .fields fv }) (hcd : W.clsIn K C = some cd) (hm : refsT b.bm cd.mro = true) (hh : cd.hasDict = true) (ha : W.findIn K (.ref C) name = some none)
    (hq : ∀ h' tk' dx, (∀ b o, b ≠ x → hp.get? b = some o → h'.get? b = some o) → hp.objs.size ≤ dx → dx ≠ x → h'.get? x = some { cls := .ref C, dict := some dx, data := .fields fv } →
      h'.Ns1 dx (fun y => if y = name then some v else none) → R (.ok (.ret .none)) ⟨h', g, d, tk', os⟩) :
    codeAny (model prog w) A (.call (.builtin "object.__setattr__") ⟨[.ref x, .str name tk, v], []⟩) R ⟨hp, g, d, t, os⟩ := by
  have I : W.InstAt hp x { cls := .ref C, data := .fields fv } C none := ⟨hx, rfl, rfl, trivial⟩
  have SF := F.store_object
  have hob : cd.mro.contains (.type "object") = true := (refsT_contains "object" _ hm).trans ok.S.hasOwner
  have ne : cd.mro.isEmpty = false := by
    cases hl : cd.mro with
    | nil => rw [hl] at hob; cases hob
    | cons _ _ => rfl
  have hxs : x ≠ hp.objs.size := Nat.ne_of_lt (Heap.lt_size hx)
  have sub : W.Looks (model prog w) hp (isInstance (.ref x) (.type "object")) true := I.type.andThen (W.looks_mroIn X (by unfold W.mroIn; rw [hcd, Option.bind_some, if_neg (by rw [ne]; decide), hob]))
  refine codeAny_call_builtin SF.slot.plain SF.entry (@W.check_slot (model prog w) _ _ ⟨hp, g, d, t, os⟩ "object.__setattr__" "object" "__setattr__" (.ref x) [.str name tk, v] [] _ SF.kind SF.split sub (SF.args (.ref x) (.str name tk) v) ?_)
  have hmr : W.Looks (model prog w) hp (mroOf (.ref C)) cd.mro := (W.looks_clsIn X hcd).andThen .now
  have L3 : W.Looks (model prog w) hp (storeTaker? none) none := .now
  have hcls : W.Looks (model prog w) hp (classData C) cd := W.looks_clsIn X hcd
  rw [W.osa_eq, refuse_eq]
  refine wpAny_bind (wpAny_bind (I.type.at (wpAny_bind (hmr.at ?_))))
  rw [refsT_pass ok.S.passes _ _ hm]
  refine wpAny_pure (wpAny_bind (I.type.at (wpAny_bind ((W.looks_findIn X ha).at (wpAny_bind (L3.at ?_))))))
  show wpAny _ _ (storeInOwnDict (.ref x) (.ref C) (.str name tk) name v false) _ _ _
  obtain ⟨nm, bs, mro, ns, qn, hd, sn, sb, ab, col, del⟩ := cd
  dsimp only at hh
  subst hh
  unfold storeInOwnDict ownDictForStores
  repeat (first | with_reducible refine HandSPX.store_in_new ?_ ?_ | with_reducible refine wpAny_loadPart_at hx ?_ | with_reducible refine hcls.at ?_ | wp_step)
  · exact ⟨_, #[], _, (Heap.get?_update_ne _ _ _ _ hxs.symm).trans (Heap.get?_push_at rfl rfl), rfl, fun e he => absurd he (by simp), fun _ => rfl⟩
  · intro h' tk' hn' hs
    have hx₁ : (hp.push { cls := .type "dict", data := .dict #[] }).get? x = some { cls := .ref C, data := .fields fv } := Heap.get?_push_of_some _ hx
    refine hq h' tk' hp.objs.size (fun b o hb ho => ?_) (Nat.le_refl _) hxs.symm ?_ hn'
    · exact (hs.2 b (Nat.ne_of_lt (Heap.lt_size ho))).trans ((Heap.get?_update_ne _ _ _ _ hb).trans (Heap.get?_push_of_some _ ho))
    · exact (hs.2 x hxs).trans (Heap.get?_update_self _ hx₁ rfl)
def iB (fld : Str) (p0 p1 p2 p3 p4 p5 p6 p7 p8 p9 : Pos) : List Stmt :=
  [.Expr (.Call (.Attribute (.Call (.Name "super" p0) [] [] p1) "__init__" p2) [.Name fld p3] [] p4) p5, .Assign [.Attribute (.Name "self" p6) fld p7] (.Name fld p8) p9]
abbrev iS (names : List (Str × NameKind)) (more : List (Str × Const)) : Scope := { kind := .function, names := names, isGenerator := false, isCoroutine := false, more := more }
structure SupDef (fld : Str) (params : Arguments) (body : List Stmt) (names : List (Str × NameKind)) (more : List (Str × Const)) : Prop where
  bod : ∃ p0 p1 p2 p3 p4 p5 p6 p7 p8 p9, body = iB fld p0 p1 p2 p3 p4 p5 p6 p7 p8 p9 ∧ (p2.endLine == p4.line) = true
  par : ∃ ar : Arg, (params.posonlyargs ++ params.args).head? = some ar ∧ ar.arg = "self"
  bnd : ∀ (s : Shared) (qual : Str) (doc pm : Value) (an : Option Addr) (cdv ct : Value) (cc : Addr) (x v : Value), BindsTo s (ksFn "__init__" qual params body (iS names more) .none .none doc pm an cdv ct cc) ⟨[x, v], []⟩ [("self", x), (fld, v)]
  nc : ∀ x ∈ names, x.2 ≠ .cell
  ls : names.lookup ("self" : Str) = some .local
  lf : names.lookup fld = some .local
  lu : names.lookup ("super" : Str) = some .globalImplicit
  lc : names.lookup ("__class__" : Str) = some .free
  nf : fld ≠ "self"
  nd : (fld == ("__debug__" : Str)) = false
structure SupTxt (b : Bs) (P : Program) (K : Frag) (mg : Str → Option Value) (cn fld : Str) (C fI : Addr) : Prop where
  gC : mg cn = some (.ref C)
  cls : ∃ nm q N bs bm sn sub ab col dd k0 k1 k2 k3 k5, K.lookup C = some (excClassObj nm q C N bs bm true sn sub ab col dd k0 k1 k2 k3 k5 b.newId) ∧ refsT b.bm bm = true
  sa : findIn K (.ref C) "__setattr__" = some (some (.builtin "object.__setattr__"))
  ga : findIn K (.ref C) "__getattribute__" = some (some (.builtin "BaseException.__getattribute__"))
  gg : findIn K (.ref C) "__getattr__" = some none
  noN : findIn K (.ref C) fld = some none
  iC : findIn K (.ref C) "__init__" = some (some (.ref fI))
  tC : typeIn K (.ref fI) = some (.type "function")
  kC : keepIn K (.ref C) = true
  exC : subIn K (.ref C) (.type "BaseException") = some true
  veC : subIn K (.ref C) (.type b.B) = some true
  ok : BsOk b
  slf : mroIn K C (.ref C) = some true
  tyC : typeIn K (.ref C) = some (.type "type")
  hdC : hasDictIn K C = true
  te : exmOne K (.ref C) (.ref C) = some true
  opq : nsIn K cStatics "thirdparty.any" = some none
  sup : ks_superIn K C C "__init__" = some (some (.builtin b.initId))
  nsu : mg "super" = none
  top : (P.main.scope.names.lookup ("super" : Str)).isSome = false
  fn : ∃ (qual : Str) (params : Arguments) (body : List Stmt) (names : List (Str × NameKind)) (more : List (Str × Const)) (oc : Value) (od : Option Addr) (doc pm : Value) (an : Option Addr) (cda : Addr) (ct : Value) (cc : Addr) (osl : Array (Option Value)) (ccl : Value) (cdd : Option Addr) (vs : Array Value) (ccs : Array (Option Value)) (file : Str) (tf : Tok) (cl : Value) (cld : Option Addr) (csl : Array (Option Value)),
    SupDef fld params body names more ∧ K.lookup fI = some ⟨oc, od, .func (ksFn "__init__" qual params body (iS names more) .none .none doc pm an (.ref cda) ct cc), osl⟩ ∧ codeIn K (.ref cda) qual = true ∧
    K.lookup cda = some ⟨ccl, cdd, .fields vs, ccs⟩ ∧ vs[2]? = some (.str file tf) ∧ ((P.main.file : Str) == file) = true ∧ K.lookup cc = some ⟨cl, cld, .cell (some (.ref C)), csl⟩
theorem meth_eval {o a : Expr} {name : Str} {apos pos : Pos} {env : Env} (ha : starEach [a] env = (false, eval a env) :: starEach [] env) (hl : (apos.endLine == pos.line) = true) :
    eval (.Call (.Attribute o name apos) [a] [] pos) env = (do
      let ov ← attributeBase o name env (eval o env)
      standAt apos.atName
      let (f, first) ← holding [ov] (getMethod ov name (do return (← importBound o env).getD true))
      callWith pos f first (backTo pos (starEach [a] env)) []) := by
  rw [arm_eval_Call]
  unfold methodCall methodCallPos calleeOf
  have few : methodCallForm ([a].length + ([] : List Keyword).length) (backTo pos (starEach [a] env)) (backToKw pos (keywordEach [] env)) = true := by
    rw [ha]
    rfl
  rw [few]
  simp only [hl, Bool.not_true, Bool.false_or, if_true, pure_bind]
  rfl
theorem one_size (v : Value) : [v].length ≤ sizeLine := by
  rw [sizeLine_eq]
  exact (by decide : 1 ≤ 16777216)
structure InitEnd (h h' : Heap) (x C dx : Addr) (fld : Str) (v : Value) : Prop where
  keep : ∀ b o, b ≠ x → h.get? b = some o → h'.get? b = some o
  obj : ∃ t1 : Addr, h'.get? x = some { cls := .ref C, dict := some dx, data := .fields #[.ref t1, .none, .none, .none, .bool false, .none] }
  dbig : h.objs.size ≤ dx
  dne : dx ≠ x
  ns : h'.Ns1 dx (fun y => if y = fld then some v else none)
structure OwnMade (h h' : Heap) (e C d : Addr) (fld : Str) (v : Value) : Prop where
  keep : ∀ b o, h.get? b = some o → h'.get? b = some o
  new : h.objs.size ≤ e
  obj : ∃ oe vs, h'.get? e = some oe ∧ oe.cls = .ref C ∧ oe.dict = some d ∧ oe.data = .fields vs ∧ vs[1]? = some .none
  dbig : h.objs.size ≤ d
  dne : d ≠ e
  ns : h'.Ns1 d (fun y => if y = fld then some v else none)
section
variable {prog : Program} {w : World} {A : Around} {E : Value → Shared → Prop} {R : Result → Shared → Prop} {s : Shared} {K : Frag} {mg : Str → Option Value} {cn fld : Str} {C fI : Addr} {base : Heap}
theorem sup_init {b : Bs} (T : SupTxt b prog K mg cn fld C fI) (Md : L2.Mod K mg base) (kb : ∀ b o, base.get? b = some o → s.heap.get? b = some o) {x t0 : Addr} {v : Value} (hx : s.heap.get? x = some (excO C t0)) (hnx : K.lookup x = none) (hroom : A.depth < recursionLimit)
    (hq : ∀ h' tk dx, InitEnd s.heap h' x C dx fld v → R (.ok (.ret .none)) { s with heap := h', toks := tk }) :
    codeAny (model prog w) A (.call (.ref fI) ⟨[.ref x, v], []⟩) R s := by
  obtain ⟨qual, params, body, names, more, oc, od, doc, pm, an, cda, ct, cc, osl, ccl, cdd, vs, ccs, file, tf, cl, cld, csl, D, ho, hcd, hcode, hvs, hfile, hcell⟩ := T.fn
  obtain ⟨nm, q, N, bs, bm, sn, sub, ab, col, dd, k0, k1, k2, k3, k5, hC, hbm⟩ := T.cls
  obtain ⟨p0, p1, p2, p3, p4, p5, p6, p7, p8, p9, rfl, hline⟩ := D.bod
  obtain ⟨ar, har, hself⟩ := D.par
  have X : K.In s.heap := Md.kin.keeps kb
  have hcl : clsIn K C = some { name := nm, bases := bs, mro := .ref C :: bm, ns := N, qualname := q, hasDict := true, slotNames := sn, subclasses := sub, abstract := ab, collection := col, hasDel := false } := by unfold clsIn; rw [hC] <;> rfl
  refine ks_codeAny_call_defAt (fd := ksFn "__init__" qual params (iB fld p0 p1 p2 p3 p4 p5 p6 p7 p8 p9) (iS names more) .none .none doc pm an (.ref cda) ct cc) (body := iB fld p0 p1 p2 p3 p4 p5 p6 p7 p8 p9) (binds := [("self", .ref x), (fld, v)]) hroom (X _ _ ho) rfl (Md.nolimit.keeps kb) (codeRec_of X hcd) rfl (D.bnd s qual doc pm an (.ref cda) ct cc (.ref x) v) D.nc ?_ (fun h₁ hns hk₁ => ?_) rfl rfl rfl
  · intro y hy
    rcases List.mem_cons.mp hy with rfl | hy
    · exact D.ls
    · rcases List.mem_cons.mp hy with rfl | hy
      · exact D.lf
      · cases hy
  obtain ⟨hp, g, d, tk, os⟩ := s
  dsimp only at hns hk₁ hx X kb ⊢
  have X₁ : K.In h₁ := X.keeps hk₁
  have kb₁ : ∀ b o, base.get? b = some o → h₁.get? b = some o := fun b o e => hk₁ b o (kb b o e)
  have hx₁ := hk₁ _ _ hx
  obtain ⟨m0, hns, vself, vfld⟩ : ∃ m0 : Str → Option Value, h₁.Ns hp.objs.size m0 ∧ m0 "self" = some (.ref x) ∧ m0 fld = some v := by
    refine ⟨_, hns, ?_, ?_⟩
    · have e : ((("self" : Str)) == fld) = false := beq_eq_false_iff_ne.mpr fun e => D.nf e.symm
      show List.lookup ("self" : Str) [(fld, v), ("self", .ref x)] = _
      rw [List.lookup_cons, e]
      rfl
    · show List.lookup fld [(fld, v), ("self", .ref x)] = _
      rw [List.lookup_cons, beq_self_eq_true]
  refine ks_wpAt_execs_cons (ks_wpAt_Expr_any (ks_wpAt_MethodCall ?_ (meth_eval rfl hline)))
  refine ks_wpAt_super_base (env := ksEnv qual (iS names more) hp.objs.size fI (.ref cda) cc) D.lu D.lc (by decide) rfl (hk₁ _ _ (X _ _ ho)) rfl har rfl (hk₁ _ _ (X _ _ hcode)) rfl hvs hfile T.top ?_
  obtain ⟨mb, b1, b2⟩ := Md.blt
  refine ks_loadName_global rfl D.lu (loadGlobal_builtin (env := ksEnv qual (iS names more) hp.objs.size fI (.ref cda) cc) (Md.glob.keeps kb₁) T.nsu (b1.keeps kb₁) ((b2 _ (by decide +kernel)).trans (by decide +kernel)) ⟨rfl, ?_⟩)
  refine wpAny_loadName_free rfl D.lc rfl ⟨_, hk₁ _ _ (X _ _ hcell), rfl⟩ ?_
  refine wpAny_loadName_local rfl (by rw [hself]; exact D.ls) hns (by rw [hself]; exact vself) ?_
  have hC₁ := X₁ _ _ hC
  refine ks_wpAny_isType_cls hC₁ rfl ⟨rfl, ?_⟩
  refine ks_wpAny_call_super hC₁ rfl hx₁ rfl (fun c e => by cases e) (looks_mroIn X₁ T.slf) (fun h₂ e2 kk2 => ?_)
  have X₂ : K.In h₂ := X₁.keeps kk2
  have hx₂ := kk2 _ _ hx₁
  have hxC : x ≠ C := fun z => by
    rw [z, hC₁] at hx₁
    cases hx₁
  have I₂ : InstAt h₂ x (excO C t0) C none := ⟨hx₂, rfl, rfl, trivial⟩
  have hI : Looks (model prog w) h₂ (isInstance (.ref x) (.type b.B)) true := I₂.type.andThen (looks_subIn X₂ T.veC)
  have hsup := T.sup
  unfold ks_superIn at hsup
  rw [hcl] at hsup
  refine kxs_getMethod T.ok.KF e2 (looks_opaque X₂ T.opq) (l₀ := .ref C :: bm) ?_ rfl X₂ hsup hI hxC (by decide) ?_
  · exact fun A Q E s k q => wpAny_bind ((looks_clsIn X₂ hcl) A _ E s k (wpAny_pure q))
  have kk3 : ∀ b' o, h₂.get? b' = some o → (h₂.push (kxs_mw b.initId x)).get? b' = some o := fun b o e => Heap.get?_push_of_some _ e
  have hu : (h₂.push (kxs_mw b.initId x)).get? h₂.objs.size = some (kxs_mw b.initId x) := Heap.get?_push_at rfl rfl
  generalize hh3 : h₂.push (kxs_mw b.initId x) = h₃ at kk3 hu ⊢
  refine kxs_callWith (i := b.initId) (x := x) rfl (evalArgs_plain ?_)
  refine spliced_more (wpAny_Name (wpAny_loadName_local (env := ksEnv qual (iS names more) hp.objs.size fI (.ref cda) cc) rfl D.lf ?ns vfld ?_) D.nd)
  case ns => exact (hns.keeps kk2).keeps kk3
  refine spliced_none ⟨hu, ?_⟩
  have X₃ : K.In h₃ := X₂.keeps kk3
  have hx₃ := kk3 _ _ hx₂
  have hC₃ := X₃ _ _ hC
  refine wpAny_call (codeAny_of_tree ?_)
  show wpAny _ _ (callAny (.ref h₂.objs.size) ⟨[v], []⟩) _ _ _
  simp only [callAny]
  refine wpAny_bind (wpAny_load hu ?_)
  simp only [kxs_mw, show (Value.type "method-wrapper" == Value.type "method" || Value.type "method-wrapper" == Value.type "builtin_function_or_method" || Value.type "method-wrapper" == Value.type "method-wrapper") = true by decide, if_true]
  refine KFB.if_so (by decide) ?_
  refine wpAny_bind (check_bound_init T.ok.F.toExcCallFacts hC₃ hx₃ rfl ?_)
  refine wpAny_bind (wpAny_pure (wpAny_pure ?_))
  refine ⟨plainId_quiet T.ok.F.init.plain _, codeAny_builtin T.ok.F.initEntry ?_⟩
  refine exc_init_tree (cls := .ref C) (t0 := t0) (dv := none) (c2 := .none) (c3 := .none) (b4 := .bool false) hx₃ (one_size v) (fun h₄ k4 hx₄ _ => ?_)
  -- self.fld = fld
  have k14 : ∀ b o, b ≠ x → h₁.get? b = some o → h₄.get? b = some o := fun b o hb e => k4 b o hb (kk3 _ _ (kk2 _ _ e))
  have X₄ : K.In h₄ := fun b o e => k14 b o (fun z => by rw [z, hnx] at e; cases e) (X₁ _ _ e)
  have hns4 : h₄.Ns hp.objs.size m0 := by
    obtain ⟨oL, es, ep, hL, r⟩ := hns
    exact ⟨oL, es, ep, k14 _ _ (fun z => absurd (Heap.lt_size hx) (by rw [← z]; exact Nat.lt_irrefl _)) hL, r⟩
  refine ks_wpAt_execs_cons (ks_wpAt_Assign_Attr (wpAt_of_wpAny (wpAny_Name (wpAny_loadName_local (env := ksEnv qual (iS names more) hp.objs.size fI (.ref cda) cc) rfl D.lf hns4 vfld ?_) D.nd)))
  refine wpAny_Name (wpAny_loadName_local (env := ksEnv qual (iS names more) hp.objs.size fI (.ref cda) cc) rfl D.ls hns4 vself ?_) (by decide)
  refine set_plain X₄ (ox := excO C _) (od := none) ⟨hx₄, rfl, rfl, trivial⟩ T.sa ?_
  refine osaT T.ok X₄ hx₄ hcl (show refsT b.bm (.ref C :: bm) = true from hbm) rfl T.noN (fun h₅ tk₅ dx k₅ dn dne hx₅ hn₅ => ?_)
  have z : hp.objs.size < h₁.objs.size := hns.lt
  have z4 : hp.objs.size ≤ dx := by
    have y : hp.objs.size < h₄.objs.size := hns4.lt
    exact Nat.le_of_lt (Nat.lt_of_lt_of_le y dn)
  exact wpAt_of_wpAny (wpAny_execs_nil (hq h₅ tk₅ dx ⟨fun b o hb e => k₅ b o hb (k14 b o hb (hk₁ b o e)), ⟨_, hx₅⟩, z4, dne, hn₅⟩))
theorem sup_made {b : Bs} (T : SupTxt b prog K mg cn fld C fI) (Md : L2.Mod K mg base) (kb : ∀ b o, base.get? b = some o → s.heap.get? b = some o) {v : Value} (hroom : A.depth + 1 < recursionLimit)
    (hq : ∀ h' tk e d, OwnMade s.heap h' e C d fld v → R (.ok (.ret (.ref e))) { s with heap := h', toks := tk }) :
    codeAny (model prog w) A (.call (.ref C) ⟨[v], []⟩) R s := by
  obtain ⟨nm, q, N, bs, bm, sn, sub, ab, col, dd, k0, k1, k2, k3, k5, hC, hbm⟩ := T.cls
  have X : K.In s.heap := Md.kin.keeps kb
  obtain ⟨hp, g, dr, tk, os⟩ := s
  have k : ∀ b o, hp.get? b = some o → ((hp.push (kdv_tup [v])).push (excO C hp.objs.size)).get? b = some o := fun b o e => Heap.get?_push_of_some _ (Heap.get?_push_of_some _ e)
  have hget : ((hp.push (kdv_tup [v])).push (excO C hp.objs.size)).get? (hp.objs.size + 1) = some (excO C hp.objs.size) := by heap_get
  have hnx : K.lookup (hp.objs.size + 1) = none := by
    cases e : K.lookup (hp.objs.size + 1) with
    | none => rfl
    | some o =>
      have z : hp.get? (hp.objs.size + 1) = some o := X _ _ e
      exact absurd (Nat.lt_of_succ_lt (Heap.lt_size z)) (Nat.lt_irrefl _)
  refine call_own T.ok.F (fun X => refsT_contains X bm hbm) (X _ _ hC) (looks_findIn X T.iC) (fun self => bind_fn X self T.tC) (one_size v) ?_
  refine sup_init (s := ⟨(hp.push (kdv_tup [v])).push (excO C hp.objs.size), g, dr, tk, os⟩) T Md (fun b o e => k b o (kb b o e)) hget hnx ?_ fun h' tk' dx ⟨k', ⟨t1, hx⟩, dn, dne, hns⟩ => ?_
  · show A.depth + 1 < recursionLimit
    exact hroom
  · have old : ∀ b o, hp.get? b = some o → h'.get? b = some o := fun b o e => k' b o (Nat.ne_of_lt (Nat.lt_succ_of_lt (Heap.lt_size e))) (k b o e)
    have z : hp.objs.size + 1 + 1 ≤ dx := by
      first
        | (simpa only [Heap.size_push] using dn)
        | exact dn
        | (have q := dn; rw [Heap.size_push, Heap.size_push] at q; exact q)
    exact ⟨rfl, hq h' tk' (hp.objs.size + 1) dx ⟨old, Nat.le_succ _, ⟨_, _, hx, rfl, rfl, rfl, rfl⟩, Nat.le_trans (Nat.le_trans (Nat.le_succ _) (Nat.le_succ _)) z, dne, hns⟩⟩
end
end SupX
end PySem
namespace Eb
open PySem PySem.Spec PyProof.Rows L2
theorem relO_fld {v : V} {v' : Value} {fld : Str} (r : RelV v v') (f : Str) : RelO (List.lookup f [(fld, v)]) (if f = fld then some v' else none) := by
  by_cases hw : f = fld
  · subst hw
    rw [if_pos rfl]
    have q : List.lookup f [(f, v)] = some v := by simp [List.lookup]
    rw [q]
    exact r
  · rw [if_neg hw]
    have qw : (f == fld) = false := by simpa using hw
    have q2 : List.lookup f [(fld, v)] = none := by simp [List.lookup, qw]
    rw [q2]
    trivial
section
variable {X : Cx} {C fI : Addr} {cn fld : Str}
def tMkS (C : Addr) (fld : Str) (ta : TA) : L2.St → Hp → XK → Prop := fun σ H Q => ta σ H fun vs H1 => ∃ v, vs = [v] ∧ ∀ d, H1 d = none → Q (.ref C) (some d) (upd H1 d (.xd [(fld, v)]))
theorem pmk_sup {a : Expr} {ta : TA} {p pos : Pos} {k : Nat} {b : PySem.SupX.Bs} (T : PySem.SupX.SupTxt b X.prog X.K X.mg cn fld C fI) (hr : Room k X.A) (ha : PA X [a] ta) (hg : Gl X cn) (hdb : (cn == ("__debug__" : Str)) = false := by decide)
    (he : starEach (a :: []) X.env = (false, eval a X.env) :: starEach [] X.env := by rfl) (hpl : (backTo pos (starEach [] X.env)).any (·.1) = false := by rfl) :
    PMk X (.Call (.Name cn p) [a] [] pos) (tMkS C fld ta) := by
  intro pins s σ H Q I h
  refine wpAny_Call_Name_kw (ld_glob I hg T.gC ?_ hdb)
  refine PySem.W.callWith_K (h₀ := X.base) I.ok.mod.kin T.kC (thn (ha.run pos pins s σ H _ I h) fun us s1 hh => ?_) he hpl
  obtain ⟨vs, H1, I1, r1, v, ev, q1⟩ := hh
  subst ev
  refine ⟨I1.kIn, ?_⟩
  cases r1 with
  | cons rv rn =>
    rename_i v' us'
    cases rn
    show wpAny _ _ (call (.ref C) [v']) _ _ _
    have Md := I1.ok.mod
    have kb := I1.bk
    obtain ⟨hp, g, dr, tk, os⟩ := s1
    refine wpAny_call (PySem.SupX.sup_made T Md kb (by have := hr.dp; omega) fun h' tk' e d M => ?_)
    show MkP X pins σ Q (.ref e) ⟨h', g, dr, tk', os⟩
    obtain ⟨oe, fv, hoe, hc, hd, hdat, h1⟩ := M.obj
    have hns := M.ns
    obtain ⟨G', g1, g2⟩ := restrict h' fun b => decide (b ≠ e)
    have gk : ∀ b, b ≠ e → G'.get? b = h'.get? b := fun b hb => g1 b (decide_eq_true hb)
    have ge : G'.get? e = none := g2 e (by simp)
    have old : ∀ b o, hp.get? b = some o → G'.get? b = some o := fun b o q => (gk b (Nat.ne_of_lt (Nat.lt_of_lt_of_le (Heap.lt_size q) M.new))).trans (M.keep b o q)
    have ob : ObjOk X.prog X.w (upd H1 d (.xd [(fld, v)])) G' d (.xd [(fld, v)]) :=
      ⟨_, hns.at (fun o q => (gk d M.dne).trans q), fun f => relO_fld rv f⟩
    have J : Inv X pins σ (upd H1 d (.xd [(fld, v)])) ⟨G', g, dr, tk', os⟩ := I1.laid (t' := tk') old M.dbig ob
    refine ⟨e, oe, fv, ⟨G', g, dr, tk', os⟩, _, .ref C, some d, rfl, J, fun b o q => ?_, ge, hoe, ⟨hc, hd⟩, hdat, h1, ?_, rfl, I1.bare, raises_own T.exC T.tyC, q1 d (I1.hok.fresh M.dbig)⟩
    · by_cases hb : b = e
      · have q' : G'.get? b = some o := q
        rw [hb, ge] at q'; cases q'
      · exact (gk b hb).symm.trans q
    · rw [upd_ne (Ne.symm M.dne)]
      exact I1.hok.fresh M.new
def tRaiseS (C : Addr) (fld : Str) (W : WX) (ta : TA) : TS := fun _ σ H => tMkS C fld ta σ H fun cls d H' => W cls d σ H'
theorem ps_raiseS {a : Expr} {ta : TA} {W : WX} {p pos pos2 : Pos} {k : Nat} (hc : X.calm = true) {b : PySem.SupX.Bs} (T : PySem.SupX.SupTxt b X.prog X.K X.mg cn fld C fI) (hr : Room k X.A) (tk : Takes X W) (ha : PA X [a] ta) (hg : Gl X cn) (hdb : (cn == ("__debug__" : Str)) = false := by decide)
    (he : starEach (a :: []) X.env = (false, eval a X.env) :: starEach [] X.env := by rfl) (hpl : (backTo pos (starEach [] X.env)).any (·.1) = false := by rfl) :
    PS X (.Raise (some (.Call (.Name cn p) [a] [] pos)) none pos2) (tRaiseS C fld W ta) := ps_raise hc tk (pmk_sup T hr ha hg hdb he hpl)
end
end Eb
namespace PySem.W
open PySem PySem.Spec PySem.Calls PyProof.Rows
end PySem.W
namespace Eb
open PySem PySem.Spec PyProof.Rows L2
end Eb

namespace Eb
open PySem PySem.Spec PyProof.Rows L2
section
variable {Λ : Lx} {env : List Sl} {W : Ow} {σ : L2.St} {H : Hp}
theorem StOk.putE (S : StOk Λ env W σ H) {i : Nat} {a : Addr} {cls : Value} {od : Option Addr} {dx : DX} (r : RepX Λ.B (Λ.vis W H) dx cls od) : StOk Λ (env.set i (.er a cls od dx)) W (σ.set i (some (.ref a))) H where
  len := by rw [List.length_set, List.length_set]; exact S.len
  sl := fun j x e => by
    by_cases q : j = i
    · subst q
      have hj : j < env.length := by
        have := (List.getElem?_eq_some_iff.mp e).1
        rwa [List.length_set] at this
      rw [List.getElem?_set_self hj] at e
      cases e
      exact ⟨List.getElem?_set_self (by rw [S.len]; exact hj), r⟩
    · rw [List.getElem?_set_ne (Ne.symm q)] at e
      have z := S.sl j x e
      exact z.gen (List.length_set ..) (List.getElem?_set_ne (Ne.symm q)) (Same.refl _) (fun _ _ _ h => h) fun _ _ _ _ _ h => h
  fr := S.fr
  mx := S.mx
  zx := S.zx
  wx := S.wx
  wi := S.wi
  dl := S.dl
  wf := S.wf
end
section
variable {X : Cx} {Λ : Lx} {w : WX} {a b c e o : Expr} {es : List Expr} {ta tb tc t : DE} {tA tB : DT} {u : DA} {pos p apos np pos' : Pos} {k : Nat} {y n x : Str}
def cnS (Λ : Lx) (w : WX) (t : DS) : TS := fun E σ H => ∃ env W e, StOk Λ env W σ H ∧ Lnk Λ w W H E e ∧ t env e
theorem XSs.cn {ss : List Stmt} {t : DS} (h : XSs X Λ w ss t) (hK : X.K = Λ.B.K) : PSs X ss (cnS Λ w t) := by
  obtain ⟨te, p, s⟩ := h.ex hK
  exact ⟨fun pins s' σ H D I ⟨env, W, e, S, L, q⟩ => p.run pins s' σ H D I (s env W σ H D e S L q)⟩
def dRaise (c : Nat) (u : DA) : DS := fun env e => u env (fun ds => match ds with
  | [d] => e.ex env ⟨c, some d⟩
  | _ => False) (e.ex env)
theorem xs_raise {cc : Nat} {fI : Addr} {fld cn : Str} {pos2 : Pos} (hc : X.calm = true) {bb : PySem.SupX.Bs} (T : PySem.SupX.SupTxt bb X.prog X.K X.mg cn fld (Λ.B.C cc) fI) (hxf : Λ.B.xf cc = fld) (hr : Room k X.A) (tk : Takes X w) (ha : XA X Λ w [a] u) (hg : Gl X cn) (hdb : (cn == ("__debug__" : Str)) = false := by decide)
    (he : starEach (a :: []) X.env = (false, eval a X.env) :: starEach [] X.env := by rfl) (hpl : (backTo pos (starEach [] X.env)).any (·.1) = false := by rfl) :
    XS X Λ w (.Raise (some (.Call (.Name cn p) [a] [] pos)) none pos2) (dRaise cc u) := ⟨fun hK => by
  obtain ⟨ra, pa, sa⟩ := ha.ex hK
  refine ⟨_, ps_raiseS hc T hr tk pa hg hdb he hpl, fun env W σ H E e S L h => sa env W σ H _ _ (e.ex env) S L.xok h fun ds vs H1 h1 S1 e1 r1 => ?_⟩
  split at h1
  · rename_i d
    obtain ⟨v, rfl, rv⟩ := r1.one_inv
    refine ⟨v, rfl, fun d' hd => ?_⟩
    have sm := same_new (o := .xd [(fld, v)]) hd
    have ev := e1.trans (.of sm)
    refine L.ex env W σ _ ⟨cc, some d⟩ _ _ h1 (S1.grow sm) ev.vis ⟨rfl, d', v, rfl, ?_, rv.up (hid_same sm)⟩
    rw [hxf]
    exact hid_some.mpr ⟨S1.fresh hd, upd_same⟩
  · exact h1.elim⟩
def dTryAs (all cs : List Nat) (i : Nat) (tB : DS) (tS : Addr → Value → Option Addr → DS) : DS := fun env e =>
  tB env { e with ex := fun env' dx => dx.c ∈ all ∧ iteB (cs.contains dx.c) (∀ a cls od, tS a cls od (env'.set i (.er a cls od dx)) { nx := fun env2 => e.nx (env2.set i .un), rt := e.rt, bk := fun env2 => e.bk (env2.set i .un), ct := fun env2 => e.ct (env2.set i .un), ex := fun _ _ => False }) (e.ex env' dx) }
theorem xs_tryAs {all cs : List Nat} {i : Nat} {c : Value} {body suite : List Stmt} {b₀ : Stmt} {tB : DS} {tS : Addr → Value → Option Addr → DS} (hs : X.stack = X.env :: X.outer) (hf : X.env.frame = some X.env.locals) (hN : X.N.Nodup) (hi : X.N[i]? = some n) (hln : X.env.kindOf n = some .local) (hc : Names X x c) (tk : Takes X w)
    (hcs : ∀ k ∈ all, PySem.W.exmOne X.K (.ref (Λ.B.C k)) c = some (cs.contains k))
    (hb : ∀ (W : WX) (pn : List (Addr × Obj)) (xe : Value → Shared → Prop), Takes (X.tr pn xe) W → PassesOwn (model X.prog X.w) X.A X.env xe → XSs (X.tr pn xe) Λ W body tB)
    (hsu : ∀ (a : Addr) (oe : Obj) (cls : Value) (d : Option Addr) (pn : List (Addr × Obj)), Zc cls d oe → (∃ vs, oe.data = .fields vs) → XSs (X.suite a ((a, oe) :: pn)) Λ w0 (b₀ :: suite) (tS a cls d)) :
    XS X Λ w (.Try body [.ExceptHandler (some (.Name x np)) (some n) (b₀ :: suite) pos'] [] [] pos) (dTryAs all cs i tB tS) := ⟨fun hK => by
  refine ⟨_, ps_try_as (i := i) (tb := fun W => cnS Λ W tB) (ts := fun a cls d => cnS Λ w0 (tS a cls d)) (Wout := w) hs hf hN hi hln hc tk (fun W pn xe t1 t2 => (hb W pn xe t1 t2).cn hK) (fun a oe cls d pn z1 z2 => (hsu a oe cls d pn z1 z2).cn hK), fun env W σ H E e S L h => ?_⟩
  unfold dTryAs at h
  refine ⟨env, W, _, S, ?_, h⟩
  refine ⟨L.nx, L.bk, L.ct, L.rt, fun env' W' σ' H' dx cv od hx S' sm rx => ?_⟩
  obtain ⟨ha, hx⟩ := hx
  have rc := rx.1
  refine ⟨cs.contains dx.c, by rw [rc]; exact hcs _ ha, fun hb a ha => ?_, fun hb => ?_⟩
  · rw [hb] at hx
    refine ⟨_, W', _, S'.putE rx, ?_, hx a cv od⟩
    exact ⟨fun env2 W2 σ2 H2 q S2 s2 => L.nx _ _ _ _ q S2.forget (sm.trans s2), fun env2 W2 σ2 H2 q S2 s2 => L.bk _ _ _ _ q S2.forget (sm.trans s2), fun env2 W2 σ2 H2 q S2 s2 => L.ct _ _ _ _ q S2.forget (sm.trans s2), L.rt, fun _ _ _ _ _ _ _ q => q.elim⟩
  · rw [hb] at hx
    exact L.ex _ _ _ _ _ _ _ hx S' sm rx⟩
def dErF (i : Nat) (a : Addr) (cls : Value) (od : Option Addr) (cc : Nat) : DE := fun env q _ => match env[i]? with
  | some (.er a' cls' od' dx) => a' = a ∧ cls' = cls ∧ od' = od ∧ dx.c = cc ∧ match dx.p with
    | some d => q d
    | none => False
  | _ => False
theorem xe_erf {i cc : Nat} {a : Addr} {oe : Obj} {cls : Value} {od : Option Addr} {pn : List (Addr × Obj)} {fld y : Str} {p : Pos} (T : XfC X.K (Λ.B.C cc)) (hno : PySem.W.findIn X.K (.ref (Λ.B.C cc)) fld = some none) (hxf : Λ.B.xf cc = fld) (hz : Zc cls od oe) (hf : ∃ vs, oe.data = .fields vs) (hv : PE (X.suite a ((a, oe) :: pn)) (.Name y p) (tVar i))
    (hb : attributeBase (.Name y p) fld X.env (eval (.Name y p) X.env) = eval (.Name y p) X.env := by rfl) : XE (X.suite a ((a, oe) :: pn)) Λ w (.Attribute (.Name y p) fld pos) (dErF i a cls od cc) := ⟨fun hK => by
  refine ⟨_, pe_xf T hno hz hf hv hb, fun env W σ H Q q x S hx h k => ?_⟩
  unfold dErF at h
  split at h
  · rename_i a' cls' od' dx he
    obtain ⟨rfl, rfl, rfl, rfl, h⟩ := h
    obtain ⟨s1, rx⟩ := S.sl i _ he
    obtain ⟨rc, rd⟩ := rx
    split at h
    · rename_i d ed
      rw [ed] at rd
      obtain ⟨dd, v, e1, e2, e3⟩ := rd
      refine ⟨_, s1, rfl, rc, dd, _, v, e1, (hid_some.mp e2).2, ?_, k d v H h S .refl e3⟩
      rw [hxf]
      simp [List.lookup]
    · exact h.elim
  · exact h.elim⟩
theorem calm {P : Program} {w' : World} {K : PySem.W.Frag} {mg : Str → Option Value} {base : Heap} {f : Addr} {fd : FuncData} {ps : List Str} {B : Tb} {wp : DW} (F : FnOk P w' K mg base (L2.CX P w') k f fd ps (spF B wp)) : FnOk P w' K mg base CX0 k f fd ps (spF0 B wp) where
  len := fun vs H Q E ⟨Z, ds, q, h1, h2, h3, h4⟩ => F.len vs H Q E0 ⟨Z, ds, q, fun _ => False, h1, h2, h3, h4, fun _ _ _ _ z => z.elim⟩
  run := fun A outer s H args us vs Q E hr he hb hv ⟨Z, ds, q, h1, h2, h3, h4⟩ => codeAny_mono (F.run A outer s H args us vs Q E0 hr he hb hv ⟨Z, ds, q, fun _ => False, h1, h2, h3, h4, fun _ _ _ _ z => z.elim⟩) fun r s' hq => by
    cases r with
    | error e =>
      obtain ⟨_, _, _, _, _, _, _, _, _, _, _, _, z⟩ := hq
      exact z.elim
    | ok fl => cases fl <;> exact hq
def tMethS (C : Addr) (m : Str) (sp : Sp) (E : L2.St → XK) (ta : TE) (t : TA) : TE := fun σ H Q => tMeth C m sp [] (E σ) ta t σ H Q
theorem pe_methS {CX : CXT} {C f : Addr} {fd : FuncData} {ps : List Str} {sp : Sp} {E : L2.St → XK} {m : Str} {ta : TE} {t : TA} {pl : Sem Bool} (he : PE X o ta) (c : Cls X.K C) (hm : Meth X.K C m f) (F : FnOk X.prog X.w X.K X.mg X.base CX k f fd ps sp) (hr : Room k X.A) (hb : Binds X.K fd ps []) (hx : ∀ σ, PassesAt CX X σ (E σ)) (ha : PA X (e :: es) t)
    (hst : starEach (e :: es) X.env = (false, eval e X.env) :: starEach es X.env := by rfl) (hpl : (backTo pos (starEach es X.env)).any (·.1) = false := by rfl)
    (ht : eval (.Call (.Attribute o m apos) (e :: es) [] pos) X.env = (do
      let ov ← eval o X.env
      standAt apos.atName
      let (f, first) ← holding [ov] (getMethod ov m pl)
      callWith pos f first (backTo pos (starEach (e :: es) X.env)) (backToKw pos (keywordEach [] X.env))) := by rfl) :
    PE X (.Call (.Attribute o m apos) (e :: es) [] pos) (tMethS C m sp E ta t) := by
  refine ⟨fun pins s σ H Q I h => ?_⟩
  refine PySem.W.methodCall_KW (pl := pl) (thn (he.run pins s σ H _ I h) fun u s1 ⟨x, H1, I1, rx, a, dx, fs, ex, ea, l, q⟩ => ?_) ht
  subst ex
  obtain rfl : u = Value.ref a := rx
  refine getmeth_ok I1 ea c hm l ?_
  refine PySem.W.callWith_K (first := [.ref a]) (h₀ := X.base) I.ok.mod.kin hm.kp (thn (ha.run pos pins s1 σ H1 _ I1 q) fun us s2 ⟨vs, H2, I2, r, q2⟩ => ⟨I2.kIn, ?_⟩) hst hpl
  have q3 : sp (V.ref a :: (vs ++ [])) H2 Q (E σ) := q2
  rw [List.append_nil] at q3
  exact run_fnS (us := .ref a :: us) (vs := .ref a :: vs) F hr hb (hx σ) I2 (.cons rfl r) q3
def dM (c : Nat) (wp : DW) (t : DE) (u : DA) : DE := fun env q x => t env (fun d => match d with
  | .obj c' fs => c' = c ∧ u env (fun ds => wp (.obj c' fs :: ds) q x) x
  | _ => False) x
theorem xe_methX {c : Nat} {f : Addr} {fd : FuncData} {ps : List Str} {wp : DW} {m : Str} {pl : Sem Bool} (tk : Takes X w) (he : XE X Λ w o t) (cl : Cls X.K (Λ.B.C c)) (hm : Meth X.K (Λ.B.C c) m f) (hf : (Λ.B.fl c).contains m = false) (F : FnOk X.prog X.w X.K X.mg X.base (L2.CX X.prog X.w) k f fd ps (spF Λ.B wp)) (hr : Room k X.A) (hb : Binds X.K fd ps []) (ha : XA X Λ w (e :: es) u)
    (hst : starEach (e :: es) X.env = (false, eval e X.env) :: starEach es X.env := by rfl) (hpl : (backTo pos (starEach es X.env)).any (·.1) = false := by rfl)
    (ht : eval (.Call (.Attribute o m apos) (e :: es) [] pos) X.env = (do
      let ov ← eval o X.env
      standAt apos.atName
      let (f, first) ← holding [ov] (getMethod ov m pl)
      callWith pos f first (backTo pos (starEach (e :: es) X.env)) (backToKw pos (keywordEach [] X.env))) := by rfl) : XE X Λ w (.Call (.Attribute o m apos) (e :: es) [] pos) (dM c wp t u) := ⟨fun hK => by
  obtain ⟨r, p, s⟩ := he.ex hK
  obtain ⟨r', p', s'⟩ := ha.ex hK
  refine ⟨_, pe_methS p cl hm F hr hb (fun σ => passAt tk σ) p' hst hpl ht, fun env W σ H Q q x S hx h k => s env W σ H _ _ x S hx h fun d v H1 h1 S1 e1 r1 => ?_⟩
  cases d <;> first | exact h1.elim | skip
  rename_i c' fs
  obtain ⟨rfl, h1⟩ := h1
  obtain ⟨a, dx, gs, rfl, hg, en, rl⟩ := id r1
  refine ⟨a, dx, gs, rfl, hid_le _ _ hg, noF en hf, s' env W σ H1 _ _ x S1 (hx.on e1) h1 fun ds vs H2 h2 S2 e2 r2 => ?_⟩
  rw [List.append_nil]
  exact ⟨Λ.G W, _ :: ds, q, x, hG S2, RepL.cons (r1.up e2.vis) r2, h2, fun d v H' hd s rp => k d v H' hd (S2.grow s) ((e1.trans e2).trans (.of s)) rp, fun dx cv od H' hd s rp => hx dx cv od H' hd (S2.grow s) ((e1.trans e2).trans (.of s)) rp⟩⟩
theorem run_fnRS {CX : CXT} {f : Addr} {sp : Sp} {E : L2.St → XK} {Q : VK} {us : List Value} {vs : List V} {pins : List (Addr × Obj)} {σ : L2.St} {H : Hp} {s : Shared} (F : FnR X.prog X.w X.K X.mg X.base CX k f sp) (hr : Room k X.A) (hx : PassesAt CX X σ (E σ)) (I : Inv X pins σ H s) (r : Vals vs us) (h : sp vs H Q (E σ)) :
    codeAny (model X.prog X.w) X.A (.call (.ref f) ⟨us, []⟩) (fun r s' => match r with | .ok (.ret v) => EP X pins σ Q v s' | .ok _ => False | .error e => X.xe e s') s := by
  refine codeAny_mono (F X.A X.stack s H us vs Q (E σ) hr I.env0 r h) fun r s' hq => ?_
  cases r with
  | error e => exact hx pins H s e s' I hq
  | ok fl =>
    cases fl with
    | ret u => exact I.after hq
    | next => exact False.elim hq
    | brk => exact False.elim hq
    | cont => exact False.elim hq
end
end Eb

namespace Eb
open PySem PySem.Spec PyProof.Rows L2 StX
section
variable {X : Cx} {CX : CXT} {n : Nat} {C g : Addr} {sp : Sp} {E : XK}
def rEA (K : PySem.W.Frag) (C : Addr) (sp : Sp) (E : XK) : R2 := fun x y H Q => ∃ a t, x = .ref a ∧ InsO H a C ∧ TyX K H y t ∧ PySem.W.notFirst K C t = true ∧ sp [.ref a, y] H Q E
theorem op_eqA {op : CmpOp} (hop : ∀ a b, compareOp op a b = richCompare op a b) (hs : PySem.W.findIn X.K (.ref C) (cmpInfo op).2.1 = some (some (.ref g))) (hf : PySem.W.isFn X.K (.ref g) = true) (F : FnR X.prog X.w X.K X.mg X.base CX n g sp)
    (hr : Room n X.A) (hx : Passes CX X E) : OpR X (compareOp op) (rEA X.K C sp E) := by
  intro pins s σ H x y v u Q I rx ry h
  obtain ⟨a, t, rfl, ha, ty, hn, q⟩ := h
  cases (show v = Value.ref a from rx)
  obtain ⟨ox, od, J⟩ := insO_at I ha
  obtain ⟨P, kx, hP, _⟩ := kit_of I ry ty
  obtain ⟨m, hF⟩ := I.fr
  rw [hop]
  refine PySem.W.cmp_K (op := op) (tb := t) hr.units0 hF I.ok.mod.kin J (kx.ty _ _ I.kIn hP) hn hs hf ?_
  refine wpAny_mono (wpAny_call (run_fnR (us := [.ref a, u]) (vs := [.ref a, y]) F hr hx I (.cons rfl (.cons ry .nil)) q)) (fun w s' z => ?_) fun _ _ x => x
  obtain ⟨z', H', I', rz, qz⟩ := z
  exact SlX.cmpback rz ⟨z', H', I', rz, qz⟩
end
section
variable {X : Cx} {Λ : Lx} {w : WX} {wp : DW}
def EqaOk (B : Tb) (c : Nat) (cs : List Nat) : Prop := (∀ m ∈ ["NoneType", "bool", "int", "str", "list", "tuple"], PySem.W.notFirst B.K (B.C c) (.type m) = true) ∧ ∀ c' ∈ cs, InsOk B c' ∧ PySem.W.notFirst B.K (B.C c) (.ref (B.C c')) = true
def eqAD (c : Nat) (cs : List Nat) (wp : DW) : D → D → DK := fun d e q _ => match d with
  | .obj c1 f1 => c1 = c ∧ (match e with
    | .obj c2 f2 => c2 ∈ cs ∧ wp [.obj c1 f1, .obj c2 f2] q (fun _ => False)
    | .cl _ => False
    | .ty _ => False
    | .dic _ _ => False
    | e => wp [.obj c1 f1, e] q (fun _ => False))
  | _ => False
theorem snd_eqA {c : Nat} {cs : List Nat} {E : XK} (o : EqaOk Λ.B c cs) : SndR Λ w (rEA Λ.B.K (Λ.B.C c) (spF0 Λ.B wp) E) (eqAD c cs wp) := fun env W σ H d e v u Q q x S hx r1 r2 h k => by
  cases d <;> first | exact h.elim | skip
  obtain ⟨rfl, h⟩ := h
  obtain ⟨a1, rfl, i1⟩ := rep_ins r1
  cases e with
  | cl _ => exact h.elim
  | ty _ => exact h.elim
  | dic _ _ => exact h.elim
  | obj c2 f2 =>
    obtain ⟨hc, h⟩ := h
    obtain ⟨o1, o2⟩ := o.2 _ hc
    exact ⟨a1, _, rfl, i1, rep_tyO o1 (r2.up hid_le), o2, call0 S (RepL.cons r1 (RepL.cons r2 RepL.nil)) h k⟩
  | non => exact ⟨a1, _, rfl, i1, rep_tyX (r2.up hid_le) rfl, o.1 _ (by simp), call0 S (RepL.cons r1 (RepL.cons r2 RepL.nil)) h k⟩
  | bl _ => exact ⟨a1, _, rfl, i1, rep_tyX (r2.up hid_le) rfl, o.1 _ (by simp), call0 S (RepL.cons r1 (RepL.cons r2 RepL.nil)) h k⟩
  | int _ => exact ⟨a1, _, rfl, i1, rep_tyX (r2.up hid_le) rfl, o.1 _ (by simp), call0 S (RepL.cons r1 (RepL.cons r2 RepL.nil)) h k⟩
  | str _ => exact ⟨a1, _, rfl, i1, rep_tyX (r2.up hid_le) rfl, o.1 _ (by simp), call0 S (RepL.cons r1 (RepL.cons r2 RepL.nil)) h k⟩
  | lst _ => exact ⟨a1, _, rfl, i1, rep_tyX (r2.up hid_le) rfl, o.1 _ (by simp), call0 S (RepL.cons r1 (RepL.cons r2 RepL.nil)) h k⟩
  | tup _ => exact ⟨a1, _, rfl, i1, rep_tyX (r2.up hid_le) rfl, o.1 _ (by simp), call0 S (RepL.cons r1 (RepL.cons r2 RepL.nil)) h k⟩
theorem ho_eqA {CX : CXT} {n c : Nat} {g : Addr} {sp : Sp} {E : XK} (hs : PySem.W.findIn X.K (.ref (Λ.B.C c)) "__eq__" = some (some (.ref g))) (hf : PySem.W.isFn X.K (.ref g) = true) (F : FnR X.prog X.w X.K X.mg X.base CX n g sp) (hr : Room n X.A) (hx : Passes CX X E) :
    X.K = Λ.B.K → OpR X (compareOp .Eq) (rEA Λ.B.K (Λ.B.C c) sp E) := fun hK => hK ▸ op_eqA (op := .Eq) (fun _ _ => rfl) hs hf F hr hx
end
def spI (B : Tb) (c : Nat) (wp : DWI) : Sp := fun vs H Q E => ∃ (Z : Addr → Prop) (ds : List D) (q : List D → Prop) (x : DX → Prop) (p dx : Addr) (vr : List V), vs = .ref p :: vr ∧ H p = some (.ins (B.C c) dx []) ∧ ¬ Z p ∧ (∀ a, Z a → H a ≠ none) ∧ RepL B (hid (fun a => Z a ∨ a = p) H) ds vr ∧
  wp ds q x ∧ (∀ fs H' dy gs, q fs → (∀ a o, a ≠ p → H a = some o → H' a = some o) → H' p = some (.ins (B.C c) dy gs) → gs.map (·.1) = B.fl c → RepL B (hid (fun a => Z a ∨ a = p) H') fs (gs.map (·.2)) → Q .non H') ∧
  ∀ dxx cv od H', x dxx → (∀ a o, a ≠ p → H a = some o → H' a = some o) → H' p ≠ none → RepX B (hid (fun a => Z a ∨ a = p) H') dxx cv od → E cv od H'
section
variable {P : Program} {w' : World} {K : PySem.W.Frag} {mg : Str → Option Value} {base : Heap} {name qual : Str} {st : Stmt} {f : Addr} {fd : FuncData} {N ps : List Str} {k : Nat} {B : Tb}
theorem initLX {Z : Addr → Prop} {H : Hp} {c n : Nat} {p dx : Addr} {q : List D → Prop} {x : DX → Prop} {Q : VK} {E : XK} (hp : H p = some (.ins (B.C c) dx [])) (hfl : (B.fl c).length = n)
    (kq : ∀ fs H' dy gs, q fs → (∀ a o, a ≠ p → H a = some o → H' a = some o) → H' p = some (.ins (B.C c) dy gs) → gs.map (·.1) = B.fl c → RepL B (hid (fun a => Z a ∨ a = p) H') fs (gs.map (·.2)) → Q .non H')
    (kx : ∀ dxx cv od H', x dxx → (∀ a o, a ≠ p → H a = some o → H' a = some o) → H' p ≠ none → RepX B (hid (fun a => Z a ∨ a = p) H') dxx cv od → E cv od H') :
    Lnk ⟨B, Z, fun a => a = p, H, none⟩ (fun cls d _ H => E cls d H) (wput (fun _ => none) 0 (some p)) H { nx := fun _ H' => Q .non H', rt := Q } (endsI c n q x) := by
  have L := initL (q := q) (Q := Q) hp hfl kq
  refine ⟨L.nx, fun _ _ _ _ z => z.elim, fun _ _ _ _ z => z.elim, fun _ _ _ _ _ _ z => z.elim, fun env' W' σ' H' dxx cv od hx S' _ rx => ?_⟩
  refine kx dxx cv od H' hx (fun a o n h => S'.fr a o n h) (S'.mx p rfl) ?_
  have up : Same ((⟨B, Z, fun a => a = p, H, none⟩ : Lx).vis W' H') (hid (fun a => Z a ∨ a = p) H') := hid_anti fun a z => by
    rcases z with z | z
    · exact .inl z
    · exact .inr (.inl z)
  exact rx.up up
end
section
variable {X : Cx} {CX : CXT} {k : Nat} {f C g : Addr} {kn : Str} {spk : List V → Option V → Hp → VK → XK → Prop} {sp : Sp} {E : L2.St → XK} {x : Str} {e y o : Expr} {es : List Expr} {kws : List Keyword} {t tk : TA} {te ta : TE} {p p2 pos : Pos}
theorem run_makeRS {pins : List (Addr × Obj)} {σ : L2.St} {H : Hp} {s : Shared} {Q : VK} {us : List Value} {vs : List V} {E : XK} (M : Mk X.K C f) (F : FnR X.prog X.w X.K X.mg X.base CX k f sp) (hr : Room (k + 1) X.A) (hx : PassesAt CX X σ E) (I : Inv X pins σ H s) (r : Vals vs us)
    (h : ∀ x dx, H x = none → H dx = none → dx ≠ x → sp (.ref x :: vs) (upd (upd H dx (.own x)) x (.ins C dx [])) (fun v H2 => v = .non ∧ Q (.ref x) H2) E) : wpAny (model X.prog X.w) X.A (call (.ref C) us) (EP X pins σ Q) X.xe s := by
  have hq := h (s.heap.objs.size + 1) s.heap.objs.size (I.hok.fresh (Nat.le_succ _)) (I.hok.fresh (Nat.le_refl _)) (Nat.ne_of_lt (Nat.lt_succ_self _))
  have I2 := Inv.made (C := C) I
  have r2 : Vals (V.ref (s.heap.objs.size + 1) :: vs) (Value.ref (s.heap.objs.size + 1) :: us) := .cons rfl r
  refine wpAny_call (make_map (f := f) I.kIn M.makes M.init (beq_iff_eq.mp M.fn) (codeAny_mono (F _ X.stack _ _ (Value.ref (s.heap.objs.size + 1) :: us) _ _ E (hr.make C us []) (I2.env0.make C us []) r2 hq) fun r s' hq' => ?_))
  cases r with
  | error e => exact hx pins _ _ e s' I2 hq'
  | ok fl =>
    cases fl with
    | ret u =>
      obtain ⟨v, H', I3, rv, ev, q3⟩ := I2.after hq'
      subst ev
      exact ⟨rv, ⟨V.ref (s.heap.objs.size + 1), H', I3, rfl, q3⟩⟩
    | next => exact False.elim hq'
    | brk => exact False.elim hq'
    | cont => exact False.elim hq'
theorem pe_makeRS (M : Mk X.K C f) (F : FnR X.prog X.w X.K X.mg X.base CX k f sp) (hr : Room (k + 1) X.A) (hg : Gl X x) (hm : X.mg x = some (.ref C)) (hx : ∀ σ, PassesAt CX X σ (E σ)) (ha : PA X (e :: es) t) (hdb : (x == ("__debug__" : Str)) = false := by decide)
    (he : starEach (e :: es) X.env = (false, eval e X.env) :: starEach es X.env := by rfl) (hpl : (backTo pos (starEach es X.env)).any (·.1) = false := by rfl) : PE X (.Call (.Name x p) (e :: es) [] pos) (fun σ H Q => tMake C sp [] (E σ) t σ H Q) := by
  refine ⟨fun pins s σ H Q I h => ?_⟩
  refine wpAny_Call_Name_kw (ld_glob I hg hm ?_ hdb)
  refine PySem.W.callWith_K (h₀ := X.base) I.ok.mod.kin M.kp (thn (ha.run pos pins s σ H _ I h) fun us s1 ⟨vs, H1, I1, r, q⟩ => ⟨I1.kIn, ?_⟩) he hpl
  refine run_makeRS M F hr (hx σ) I1 r fun a dx h1 h2 h3 => ?_
  have := q a dx h1 h2 h3
  rw [List.append_nil] at this
  exact this
theorem pe_makeRS0 (M : Mk X.K C f) (F : FnR X.prog X.w X.K X.mg X.base CX k f sp) (hr : Room (k + 1) X.A) (hg : Gl X x) (hm : X.mg x = some (.ref C)) (hx : ∀ σ, PassesAt CX X σ (E σ)) (hdb : (x == ("__debug__" : Str)) = false := by decide) : PE X (.Call (.Name x p) [] [] pos) (fun σ H Q => tMake C sp [] (E σ) tNil σ H Q) := by
  refine ⟨fun pins s σ H Q I h => ?_⟩
  refine wpAny_Call_Name_kw (ld_glob I hg hm ?_ hdb)
  exact PySem.W.callWith_K0 I.kIn M.kp (run_makeRS (us := []) (vs := []) M F hr (hx σ) I .nil fun a dx h1 h2 h3 => h a dx h1 h2 h3)
end
section
variable {X : Cx} {Λ : Lx} {w : WX} {a b c e o : Expr} {es : List Expr} {ta tb tc t : DE} {u : DA} {pos p apos kpos : Pos} {k : Nat} {f g : Addr} {fd : FuncData} {ps : List Str} {wp : DWI} {wd : DW} {y kn : Str} {dv : V} {nm : Option Str} {v1 : Expr}
theorem make_iX {env : List Sl} {W : Ow} {σ : L2.St} {H : Hp} {Q : VK} {q : D → Prop} {xx : DX → Prop} {ds : List D} {vs : List V} {cc : Nat} {x dx : Addr} (S : StOk Λ env W σ H) (hxo : XOk Λ w env W σ H xx) (r : RepL Λ.B (Λ.vis W H) ds vs) (h : wp ds (fun fs => q (.obj cc fs)) xx)
    (k : ∀ d v H', q d → StOk Λ env W σ H' → Ev Λ W H H' → Rep Λ.B (Λ.vis W H') d v → Q v H') (hx : H x = none) (hdx : H dx = none) (hne : dx ≠ x) :
    spI Λ.B cc wp (.ref x :: vs) (upd (upd H dx (.own x)) x (.ins (Λ.B.C cc) dx [])) (fun v H2 => v = .non ∧ Q (.ref x) H2) (WE w σ) := by
  have s1 := made_same (C := Λ.B.C cc) hx hdx
  have nx : ¬ Λ.G W x := S.fresh hx
  refine ⟨Λ.G W, ds, _, xx, x, dx, vs, rfl, upd_same, nx, fun a g => some_mono s1 (hG S a g), r.up ?_, h, fun fs H' dy gs hq grow hp hn rl => ⟨rfl, ?_⟩, fun dxx cv od H' hq grow hp rx => ?_⟩
  · intro a o ha
    obtain ⟨g, ha⟩ := hid_some.mp ha
    have n : a ≠ x := ne_of_none ha hx
    exact hid_some.mpr ⟨fun z => z.elim g n, s1 _ _ ha⟩
  · have s2 : Same H H' := fun a o ha => grow a o (ne_of_none ha hx) (s1 _ _ ha)
    refine k _ _ H' hq (S.grow s2) (.of s2) ⟨x, dy, gs, rfl, hid_some.mpr ⟨nx, hp⟩, hn, rl.up (hid_anti fun a g => .inl g)⟩
  · have s2 : Same H H' := fun a o ha => grow a o (ne_of_none ha hx) (s1 _ _ ha)
    exact hxo dxx cv od H' hq (S.grow s2) (.of s2) (rx.up (hid_anti fun a g => .inl g))
def dMkX (cc : Nat) (wp : DWI) (u : DA) : DE := fun env q x => u env (fun ds => wp ds (fun fs => q (.obj cc fs)) x) x
theorem xe_makeX {cc : Nat} (tk : Takes X w) (M : Mk X.K (Λ.B.C cc) f) (F : FnR X.prog X.w X.K X.mg X.base (L2.CX X.prog X.w) k f (spI Λ.B cc wp)) (hr : Room (k + 1) X.A) (hg : Gl X y) (hm : X.mg y = some (.ref (Λ.B.C cc))) (ha : XA X Λ w (e :: es) u) (hdb : (y == ("__debug__" : Str)) = false := by decide)
    (he : starEach (e :: es) X.env = (false, eval e X.env) :: starEach es X.env := by rfl) (hpl : (backTo pos (starEach es X.env)).any (·.1) = false := by rfl) : XE X Λ w (.Call (.Name y p) (e :: es) [] pos) (dMkX cc wp u) := ⟨fun hK => by
  obtain ⟨r, p, s⟩ := ha.ex hK
  refine ⟨_, pe_makeRS (E := fun σ => WE w σ) M F hr hg hm (fun σ => passAt tk σ) p hdb he hpl, fun env W σ H Q q x S hx h k => s env W σ H _ _ x S hx h fun ds vs H1 h1 S1 e1 r1 x dx h2 h3 h4 => ?_⟩
  rw [List.append_nil]
  exact make_iX S1 (hx.on e1) r1 h1 (fun d v H' a b c => k d v H' a b (e1.trans c)) h2 h3 h4⟩
end
end Eb

namespace Eb
namespace SO
open PySem PySem.Calls PySem.Spec PyProof.Rows L2 StX PySem.W
theorem zip_look {P : List Str} {us : List Value} {i : Nat} {x : Str} {u : Value} (nd : P.Nodup) (h1 : P[i]? = some x) (h2 : us[i]? = some u) : (P.zip us).reverse.lookup x = some u := by
  induction P generalizing us i with
  | nil => simp at h1
  | cons p P ih =>
    cases us with
    | nil => simp at h2
    | cons v vs =>
      rw [List.zip_cons_cons, List.reverse_cons, List.lookup_append]
      cases i with
      | zero =>
        simp at h1 h2
        subst h1 h2
        have e : (P.zip vs).reverse.lookup p = none := by
          rw [List.lookup_eq_none_iff]
          intro q hq
          have := List.of_mem_zip (List.mem_reverse.mp hq)
          simp only [bne_iff_ne, ne_eq, beq_eq_false_iff_ne]
          rintro rfl
          exact (List.nodup_cons.mp nd).1 this.1
        rw [e]
        simp
      | succ i =>
        rw [ih (i := i) (List.nodup_cons.mp nd).2 (by simpa using h1) (by simpa using h2)]
        rfl
structure ScopeS (N P : List Str) (sc : Scope) : Prop where
  kind : sc.kind = .function
  co : sc.isCoroutine = false
  gen : sc.isGenerator = false
  nd : N.Nodup
  pre : N.take P.length = P
  par : ∀ x ∈ P, sc.names.lookup x = some .local
  nocell : ∀ y ∈ sc.names, y.2 ≠ .cell
  free : ∀ y ∈ sc.names, y.2 = .free → y.1 = "__class__"
  lu : sc.names.lookup ("super" : Str) = some .globalImplicit
  lc : sc.names.lookup ("__class__" : Str) = some .free
abbrev cxS (CX : CXT) (P : Program) (w : World) (K : PySem.W.Frag) (mg : Str → Option Value) (base : Heap) (N : List Str) (qual : Str) (scope : Scope) (f : Addr) (cd : Value) (cc : Addr) (A : Around) (outer : List Env) (s : Shared) (H : Hp) (E : XK) : Cx where
  prog := P
  w := w
  K := K
  mg := mg
  base := base
  A := A.deeper (ksEnv qual scope s.heap.objs.size f cd cc)
  N := N
  s_0 := s
  H_0 := H
  env := ksEnv qual scope s.heap.objs.size f cd cc
  outer := outer
  stack := ksEnv qual scope s.heap.objs.size f cd cc :: outer
  ex := []
  calm := true
  fn := fun _ => false
  pn := []
  xe := fun e s' => wpAny (model P w) (A.deeper (ksEnv qual scope s.heap.objs.size f cd cc)) (leaving (ksEnv qual scope s.heap.objs.size f cd cc) e) (fun _ s'' => CX outer H s E e s'') (fun e' s'' => CX outer H s E e' s'') s'
theorem inv_startS {CX : CXT} {P : Program} {w : World} {K : PySem.W.Frag} {mg : Str → Option Value} {base : Heap} {N ps : List Str} {qual : Str} {scope : Scope} {f cc : Addr} {cd : Value} {A : Around} {outer : List Env} {s : Shared} {h1 : Heap} {tk : Nat} {H : Hp} {E : XK} {us : List Value} {vs : List V} {oc : Obj} {cv : Option Value}
    (S : ScopeS N ps scope) (hd : A.handled = none) (e0 : Env0 P w K mg base A outer s H) (hl : vs.length = ps.length) (r : Vals vs us) (hc : K.lookup cc = some oc) (hcv : oc.data = .cell cv)
    (hns : h1.Ns s.heap.objs.size (fun x => (ps.zip us).reverse.lookup x)) (hk : ∀ b o, s.heap.get? b = some o → h1.get? b = some o) :
    Inv (cxS CX P w K mg base N qual scope f cd cc A outer s H E) [] (L2.start N vs) H { s with heap := h1, toks := tk } := by
  have hpl : ps.length ≤ N.length := by have := congrArg List.length S.pre; rw [List.length_take] at this; omega
  have ob : base.get? cc = some oc := e0.mod.kin _ _ hc
  have os := e0.bs _ _ ob
  have one : ∀ y c, (cxS CX P w K mg base N qual scope f cd cc A outer s H E).env.cells.lookup y = some c → y = "__class__" ∧ c = cc := fun y c h => by
    have h2 : List.lookup y [(("__class__" : Str), cc)] = some c := h
    rw [List.lookup_cons] at h2
    cases q : (y == ("__class__" : Str)) with
    | true =>
      rw [q] at h2
      exact ⟨beq_iff_eq.mp q, (Option.some.inj h2).symm⟩
    | false => rw [q] at h2; cases h2
  have noA : ∀ b : Addr, b ∉ (cxS CX P w K mg base N qual scope f cd cc A outer s H E).ex := fun b z => absurd (show b ∈ ([] : List Addr) from z) (by simp)
  have cs := hk _ _ os.1
  refine ⟨⟨e0.mod, S.kind, rfl, rfl, Nat.le_refl _, fun y z c h1 h2 => (one y c h1).1.trans (one z c h2).1.symm, fun y hy => ?_, fun y c h _ => Bool.noConfusion h, fun _ => hd, Around.frames_deeper e0.frames, .inr ⟨rfl, rfl⟩, fun b z => absurd z (noA b), e0.bs, e0.bsz, fun b _ _ => noA b, fun b z => absurd z (noA b), e0.funs, e0.frf⟩,
    rfl, e0.bare, Un.kept hk, ⟨_, hns, fun i y v h1 h2 h3 => ?_⟩, fun y c h => ?_, e0.hok.fresh (Nat.le_refl _), fun y c h => ?_, fun p hp => absurd (show p ∈ ([] : List (Addr × Obj)) from hp) (by simp), e0.hok.kept hk, ?_⟩
  · have hy : scope.names.lookup y = some .cell ∨ scope.names.lookup y = some .free := hy
    rcases hy with hy | hy
    · exact absurd rfl (S.nocell _ (PySem.mem_of_lookup hy))
    · have e : y = "__class__" := S.free _ (PySem.mem_of_lookup hy) rfl
      subst e
      exact ⟨cc, rfl⟩
  · have hi : i < vs.length := by
      unfold L2.start at h2
      by_cases hi : i < vs.length
      · exact hi
      · rw [List.getElem?_append_right (by simpa using hi)] at h2
        rw [List.getElem?_replicate] at h2
        split at h2 <;> cases h2
    have ha : vs[i]? = some v := by
      unfold L2.start at h2
      rw [List.getElem?_append_left (by simpa using hi), List.getElem?_map] at h2
      cases e : vs[i]? with
      | none => rw [e] at h2; cases h2
      | some a => rw [e] at h2; cases h2; rfl
    obtain ⟨u, hu, rv⟩ := r.get ha
    have hp : ps[i]? = some y := by
      rw [← S.pre, List.getElem?_take_of_lt (by omega)]; exact h1
    have ndP : ps.Nodup := by rw [← S.pre]; exact S.nd.sublist (List.take_sublist _ _)
    exact ⟨u, rv, .inl ⟨S.par y (List.mem_of_getElem? hp), zip_look ndP hp hu⟩⟩
  · obtain ⟨rfl, rfl⟩ := one y c h
    exact ⟨cv, _, cs, hcv⟩
  · obtain ⟨rfl, rfl⟩ := one y c h
    exact os.2
  · unfold L2.start
    show _ = N.length
    rw [List.length_append, List.length_map, List.length_replicate]
    omega
section
variable {M : Model} {A : Around} {c : Code} {E : Value → Shared → Prop} {env : Env}
theorem wp_app {Γ} {rest : List Stmt} {Q} {E'} : ∀ {pre : List Stmt} {p} {s : Shared}, Sem.wp M Γ (execs pre env) (fun f p' s' => match f with | .next => Sem.wp M Γ (execs rest env) Q E' p' s' | f => Q f p' s') E' p s → Sem.wp M Γ (execs (pre ++ rest) env) Q E' p s
  | [], p, s, h => by
    rw [PySem.execs_nil, Sem.wp_pure'] at h
    exact h
  | st :: pre, p, s, h => by
    rw [List.cons_append, PySem.execs_cons, Sem.wp_bind']
    rw [PySem.execs_cons, Sem.wp_bind'] at h
    refine Sem.wp_mono M Γ _ (fun f p' s' h' => ?_) (fun _ _ _ h' => h') _ _ h
    cases f with
    | next => exact wp_app h'
    | _ => exact h'
theorem at_app {pre rest : List Stmt} {Q : Flow → Shared → Prop} {s : Shared} (h : wpAny M A (execs pre env) (fun f s' => match f with | .next => _root_.PySem.wpAt M A c (execs rest env) Q E s' | f => Q f s') E s) : _root_.PySem.wpAt M A c (execs (pre ++ rest) env) Q E s := fun Γ p hc hΓ => by
  refine wp_app (Sem.wp_mono M Γ _ (fun f p' s' h' => ?_) (fun _ _ _ h' => h') _ _ (h Γ p hΓ))
  cases f with
  | next => exact h' Γ p' hc hΓ
  | _ => exact h'
end
structure SupT (P : Program) (K : PySem.W.Frag) (mg : Str → Option Value) (D f2 cda cc : Addr) : Prop where
  nsu : mg "super" = none
  top : (P.main.scope.names.lookup ("super" : Str)).isSome = false
  code : ∃ ccl cdd vs ccs file tf, K.lookup cda = some ⟨ccl, cdd, .fields vs, ccs⟩ ∧ (vs[2]? : Option Value) = some (.str file tf) ∧ ((P.main.file : Str) == file) = true
  cell : ∃ cl cld csl, K.lookup cc = some ⟨cl, cld, .cell (some (.ref D)), csl⟩
  cls : ∃ cd, clsIn K D = some cd
  slf : mroIn K D (.ref D) = some true
  opq : nsIn K cStatics "thirdparty.any" = some none
  sup : ks_superIn K D D "__init__" = some (some (.ref f2))
  tf : typeIn K (.ref f2) = some (.type "function")
  fi : fnIn K f2 = true
def supMid (D : Addr) (sp2 : Sp) (ta : TA) (nx : L2.St → Hp → Prop) : L2.St → Hp → Prop := fun σ H => ∃ p dx gs, σ[0]? = some (some (V.ref p)) ∧ H p = some (.ins D dx gs) ∧ ta σ H fun vs H1 => sp2 (.ref p :: vs) H1 (fun _ H2 => nx σ H2) E0
theorem many_eval {o a : Expr} {es : List Expr} {name : Str} {apos pos : Pos} {env : Env} (few : methodCallForm ((a :: es).length + ([] : List Keyword).length) (backTo pos (starEach (a :: es) env)) (backToKw pos (keywordEach [] env)) = true) (hl : (apos.endLine == pos.line) = true) :
    eval (.Call (.Attribute o name apos) (a :: es) [] pos) env = (do
      let ov ← attributeBase o name env (eval o env)
      standAt apos.atName
      let (f, first) ← holding [ov] (getMethod ov name (do return (← importBound o env).getD true))
      callWith pos f first (backTo pos (starEach (a :: es) env)) []) := by
  rw [arm_eval_Call]
  unfold methodCall methodCallPos calleeOf
  rw [few]
  simp only [hl, Bool.not_true, Bool.false_or, if_true, pure_bind]
  rfl
theorem sup_bnd {CX : CXT} {P : Program} {w : World} {K : PySem.W.Frag} {mg : Str → Option Value} {base : Heap} {k : Nat} {f f2 D cda cc : Addr} {name qual : Str} {st : Stmt} {dV kV doc pm ct oc : Value} {an od : Option Addr} {osl : Array (Option Value)} {N ps ps2 : List Str} {sp2 : Sp} {fd2 : FuncData}
    {pre post : List Stmt} {a : Expr} {es : List Expr} {p0 p1 p2 p4 p5 : Pos} {A : Around} {outer : List Env} {s0 : Shared} {H0 : Hp} {args : Args} {Q : VK} {E : XK} {G : List V → Hp → Prop}
    (lk : K.lookup f = some ⟨oc, od, .func (HK.fnC name qual st [("__class__", cc)] dV kV doc pm an (.ref cda) ct), osl⟩) (hcd : codeIn K (.ref cda) qual = true) (S : ScopeS N ps (defScope st)) (T : SupT P K mg D f2 cda cc)
    (bod : defBody st = pre ++ .Expr (.Call (.Attribute (.Call (.Name "super" p0) [] [] p1) "__init__" p2) (a :: es) [] p4) p5 :: post) (hline : (p2.endLine == p4.line) = true)
    (har : ∃ ar : Arg, ((defArgs st).posonlyargs ++ (defArgs st).args).head? = some ar ∧ N[0]? = some ar.arg ∧ (defScope st).names.lookup ar.arg = some .local)
    (F2 : FnOk P w K mg base CX0 k f2 fd2 ps2 sp2) (b2 : Binds K fd2 ps2 [])
    (hst : ∀ env : Env, starEach (a :: es) env = (false, eval a env) :: starEach es env) (hpl : ∀ env : Env, (backTo p4 (starEach es env)).any (·.1) = false) (few : ∀ env : Env, methodCallForm ((a :: es).length + ([] : List Keyword).length) (backTo p4 (starEach (a :: es) env)) (backToKw p4 (keywordEach [] env)) = true)
    (hint : ∀ env : Env, env.scope = defScope st → interactive env = false) (hsw : ∀ env : Env, env.scope = defScope st → swapsWith (.Call (.Attribute (.Call (.Name "super" p0) [] [] p1) "__init__" p2) (a :: es) [] p4) none p5.line env = pure false)
    (hr : Room (k + 1) A) (e00 : Env0 P w K mg base A outer s0 H0) (hb : Bnd CX P w K mg base (HK.fnC name qual st [("__class__", cc)] dV kV doc pm an (.ref cda) ct) args ps A outer s0 H0 E G)
    (hbody : ∀ (s : Shared) (H : Hp) (vs : List V), G vs H → Room k (A.deeper (ksEnv qual (defScope st) s.heap.objs.size f (.ref cda) cc)) →
      ∃ t1 ta t2, PSs (cxS CX P w K mg base N qual (defScope st) f (.ref cda) cc A outer s H E) pre t1 ∧ PA (cxS CX P w K mg base N qual (defScope st) f (.ref cda) cc A outer s H E) (a :: es) ta ∧ PSs (cxS CX P w K mg base N qual (defScope st) f (.ref cda) cc A outer s H E) post t2 ∧
        t1 { nx := supMid D sp2 ta fun σ H' => t2 { nx := fun _ H' => Q .non H', rt := Q } σ H', rt := Q } (L2.start N vs) H) :
    codeAny (model P w) A (.call (.ref f) args) (CR CX outer P w H0 s0 Q E) s0 := by
  have KX0 : K.In s0.heap := e00.mod.kin.keeps fun b o e => (e00.bs b o e).1
  refine codeAny_call_function hr.depth (KX0 _ _ lk) rfl S.co S.gen rfl (PySem.W.codeRec_of KX0 hcd) ?_
  refine hb _ _ _ fun s H vs us e0 un0 ho0 hx0 r hl g => ?_
  have KX : K.In s.heap := e0.mod.kin.keeps fun b o e => (e0.bs b o e).1
  have lim : s.heap.NoLimit := e0.mod.nolimit.keeps fun b o e => (e0.bs b o e).1
  obtain ⟨cl, cld, csl, hcell⟩ := T.cell
  obtain ⟨t1, ta, t2, h1, ha, h2, hq⟩ := hbody s H vs g (hr.deeper _)
  refine wpAny_newFunctionEnv (s := s) S.nocell (fun x hx => S.par _ (List.of_mem_zip hx).1) (fun h₀ hns hsb₀ => ⟨lim.fresh _ hsb₀, ?_⟩) S.kind
  have hk : ∀ b o, s.heap.get? b = some o → h₀.get? b = some o := fun b o e => hsb₀.extBut b o (Nat.ne_of_lt (Heap.lt_size e)) (Heap.get?_push_of_some _ e)
  have I0 : Inv (cxS CX P w K mg base N qual (defScope st) f (.ref cda) cc A outer s H E) [] (L2.start N vs) H { s with heap := h₀, toks := s.toks + (ps.zip us).length } := inv_startS S hr.hd e0 hl r hcell rfl hns hk
  have fin : ∀ (fl : Flow) (s' : Shared), SP (cxS CX P w K mg base N qual (defScope st) f (.ref cda) cc A outer s H E) [] { nx := fun _ H' => Q .non H', rt := Q } fl s' → CR CX outer P w H0 s0 Q E (.ok (.ret (match fl with | .ret v => v | _ => .none))) s' := fun fl s' hs => by
    cases fl with
    | ret u =>
      obtain ⟨v, σ', H', J, rv, q⟩ := hs
      exact ⟨v, H', J.os.trans ho0, J.bare, un0.trans J.base, J.hok, rv, q⟩
    | next =>
      obtain ⟨σ', H', J, q⟩ := hs
      exact ⟨V.non, H', J.os.trans ho0, J.bare, un0.trans J.base, J.hok, rfl, q⟩
    | brk =>
      obtain ⟨_, _, _, q⟩ := hs
      exact False.elim q
    | cont =>
      obtain ⟨_, _, _, q⟩ := hs
      exact False.elim q
  have exo : ∀ (e : Value) (s' : Shared), (cxS CX P w K mg base N qual (defScope st) f (.ref cda) cc A outer s H E).xe e s' → wpAny (model P w) (A.deeper (ksEnv qual (defScope st) s.heap.objs.size f (.ref cda) cc)) (leaving (ksEnv qual (defScope st) s.heap.objs.size f (.ref cda) cc) e) (fun _ s'' => CR CX outer P w H0 s0 Q E (.error e) s'') (fun e' s'' => CR CX outer P w H0 s0 Q E (.error e') s'') s' :=
    fun e s' hs => wpAny_mono hs (fun _ s'' z => hx0 e s'' z) fun e' s'' z => hx0 e' s'' z
  refine ks_codeAny_funcAt ?_
  show _root_.PySem.wpAt _ _ _ (execs (defBody st) (ksEnv qual (defScope st) s.heap.objs.size f (.ref cda) cc)) _ _ _
  rw [bod]
  refine at_app (wpAny_mono (h1.run [] _ _ H _ I0 hq) (fun fl s1 hs => ?_) fun e s' hs => exo e s' hs)
  cases fl with
  | ret u => exact fin (.ret u) s1 hs
  | brk => exact hs.elim fun _ ⟨_, _, q⟩ => q.elim
  | cont => exact hs.elim fun _ ⟨_, _, q⟩ => q.elim
  | next =>
    obtain ⟨σ, H1, I1, p, dx, gs, hσ, hp, hta⟩ := hs
    obtain ⟨ar, har, hN, hloc⟩ := har
    obtain ⟨ccl, cdd, cvs, ccs, file, tf, hco, hcv, hfile⟩ := T.code
    obtain ⟨mA, O, _⟩ := ins_get I1.hok hp
    obtain ⟨odx, IA, _⟩ := O.look
    obtain ⟨cdD, hcls⟩ := T.cls
    obtain ⟨m0, hns1, hloc1⟩ := I1.loc
    obtain ⟨u0, ru0, lo0⟩ := hloc1 0 ar.arg (.ref p) hN hσ (.inl hloc)
    obtain rfl : u0 = Value.ref p := ru0
    have vself : m0 ar.arg = some (.ref p) := by
      rcases lo0 with z | ⟨z, _⟩
      · exact z.2
      · have hloc' : (ksEnv qual (defScope st) s.heap.objs.size f (.ref cda) cc).kindOf ar.arg = some .local := hloc
        rcases z with z | z
        · rw [show (cxS CX P w K mg base N qual (defScope st) f (.ref cda) cc A outer s H E).env.kindOf ar.arg = some .local from hloc] at z; cases z
        · rw [show (cxS CX P w K mg base N qual (defScope st) f (.ref cda) cc A outer s H E).env.kindOf ar.arg = some .local from hloc] at z; cases z
    have X1 := I1.kIn
    have mod := I1.mod
    obtain ⟨mb, b1, b2'⟩ := mod.blt
    refine ks_wpAt_mono (Q := _) (E := (cxS CX P w K mg base N qual (defScope st) f (.ref cda) cc A outer s H E).xe) (ks_wpAt_execs_cons (ks_wpAt_Expr_any (ks_wpAt_MethodCall ?_ (many_eval (few _) hline)) (hint _ rfl) (hsw _ rfl))) (fun _ _ z => z) exo
    refine ks_wpAt_super_base (env := ksEnv qual (defScope st) s.heap.objs.size f (.ref cda) cc) S.lu S.lc (by decide) rfl (X1 _ _ lk) rfl har rfl (X1 _ _ hco) rfl hcv hfile T.top ?_
    refine ks_loadName_global S.kind S.lu (loadGlobal_builtin (env := ksEnv qual (defScope st) s.heap.objs.size f (.ref cda) cc) (mod.glob.keeps I1.bk) T.nsu (b1.keeps I1.bk) ((b2' _ (by decide +kernel)).trans (by decide +kernel)) ⟨rfl, ?_⟩)
    refine wpAny_loadName_free S.kind S.lc rfl ⟨_, X1 _ _ hcell, rfl⟩ ?_
    refine wpAny_loadName_local S.kind hloc hns1 vself ?_
    obtain ⟨hh, g, d, tk, os⟩ := s1
    dsimp only at hns1 X1 I1 ⊢
    obtain ⟨oD, hD1, hD2⟩ : ∃ oD, hh.get? D = some oD ∧ oD.data = .cls cdD := by
      unfold clsIn at hcls
      split at hcls
      · rename_i c d cd' sl ho
        cases hcls
        exact ⟨_, X1 _ _ ho, rfl⟩
      · cases hcls
    refine ks_wpAny_isType_cls hD1 hD2 ⟨rfl, ?_⟩
    refine ks_wpAny_call_super hD1 hD2 IA.at_ IA.cls (fun c e => ?_) (looks_mroIn X1 T.slf) (fun h' e kk => ?_)
    · have := IA.no
      unfold notCls at this
      rw [e] at this
      exact Bool.noConfusion this
    have I2 := I1.kept (t' := tk) kk
    have X2 := I2.kIn
    dsimp only at X2
    have hsup := T.sup
    unfold ks_superIn at hsup
    rw [hcls] at hsup
    obtain ⟨of2, hof, hofc⟩ : ∃ of, h'.get? f2 = some of ∧ of.cls = .type "function" := by
      have ht' : (K.lookup f2).map (·.cls) = some (.type "function") := T.tf
      cases z : K.lookup f2 with
      | none => rw [z] at ht'; cases ht'
      | some of => rw [z] at ht'; exact ⟨of, X2 _ _ z, Option.some.inj ht'⟩
    refine ks_wpAny_getMethod_super e (looks_opaque X2 T.opq) (l₀ := cdD.mro) ?_ rfl X2 hsup hof hofc (ks_ne X1 IA hcls) (by decide) ?_
    · exact fun A Q E s k q => wpAny_bind ((looks_clsIn X2 hcls) A _ E s k (wpAny_pure q))
    have kk3 : ∀ b' o, h'.get? b' = some o → (h'.push (methodObj (.ref f2) (.ref p))).get? b' = some o := fun b o e => Heap.get?_push_of_some _ e
    have I3 := I2.kept (t' := tk + 1) kk3
    have hm : (h'.push (methodObj (.ref f2) (.ref p))).get? h'.objs.size = some (methodObj (.ref f2) (.ref p)) := Heap.get?_push_at rfl rfl
    have I4 : Inv (cxS CX P w K mg base N qual (defScope st) f (.ref cda) cc A outer s H E) [(h'.objs.size, methodObj (.ref f2) (.ref p))] σ H1 ⟨h'.push (methodObj (.ref f2) (.ref p)), g, d, tk + 1, os⟩ :=
      ⟨I3.ok, I3.os, I3.bare, I3.base, I3.loc, I3.cell, I3.free, I3.freeC, fun q hq => by
        obtain rfl : q = (h'.objs.size, methodObj (.ref f2) (.ref p)) := by
          have hq2 : q ∈ ([] : List (Addr × Obj)) ++ [(h'.objs.size, methodObj (.ref f2) (.ref p))] := hq
          rw [List.nil_append] at hq2
          exact List.mem_singleton.mp hq2
        refine ⟨hm, I2.hok.fresh (Nat.le_refl _), ?_, I2.nofs (Nat.le_refl _), fun v z => by cases z⟩
        have := I2.lt
        exact Nat.ne_of_gt this, I3.hok, I3.len⟩
    show wpAny _ _ (callWith p4 (.ref h'.objs.size) [] _ []) _ _ _
    refine callWith_of (P := MethP K h'.objs.size f2 (.ref p)) ?_ (keeps_M T.fi) ?_
    · rw [hst]
      show ((false || (backTo p4 (starEach es _)).any (·.1)) || false) = false
      rw [hpl]; rfl
    have run := ha.run p4 [(h'.objs.size, methodObj (.ref f2) (.ref p))] _ σ H1 _ I4 hta
    have he : starEach (a :: es) (cxS CX P w K mg base N qual (defScope st) f (.ref cda) cc A outer s H E).env = (false, eval a _) :: starEach es _ := hst _
    rw [he] at run
    rw [hst]
    refine evalArgs_plain (thn run fun us2 s2 ⟨vs2, H2, I5, r2, q2⟩ => ⟨⟨(I5.pin _ (List.mem_append_right _ (List.mem_singleton.mpr rfl))).1, I5.kIn⟩, ?_⟩)
    have r3 : Vals (V.ref p :: vs2) (Value.ref p :: us2) := .cons rfl r2
    have hl2 : (Value.ref p :: us2 ++ []).length = ps2.length := by rw [List.append_nil, ← r3.length]; exact F2.len _ _ _ _ q2
    refine wpAny_call (ks_codeAny_call_bound (f := f2) (x := .ref p) (I5.pin _ (List.mem_append_right _ (List.mem_singleton.mpr rfl))).1 ?_)
    have b3 := b2 s2 (Value.ref p :: us2) I5.kIn hl2
    rw [List.append_nil] at b3
    refine codeAny_mono (F2.run _ _ s2 H2 ⟨Value.ref p :: us2, []⟩ (Value.ref p :: us2) (V.ref p :: vs2) _ E0 (hr.deeper _) I5.env0 b3 r3 q2) fun rr s3 hq3 => ?_
    cases rr with
    | error e => exact hq3.elim
    | ok fl =>
      cases fl with
      | ret u =>
        obtain ⟨v, H3, I6, rv, q3⟩ := I5.after hq3
        have I7 : Inv (cxS CX P w K mg base N qual (defScope st) f (.ref cda) cc A outer s H E) [] σ H3 s3 := ⟨I6.ok, I6.os, I6.bare, I6.base, I6.loc, I6.cell, I6.free, I6.freeC, fun q hq => absurd (show q ∈ ([] : List (Addr × Obj)) from hq) (by simp), I6.hok, I6.len⟩
        exact wpAt_of_wpAny (wpAny_mono (h2.run [] s3 σ H3 _ I7 q3) (fun fl s' hs => fin fl s' hs) fun e s' hs => hs)
      | next => exact False.elim hq3
      | brk => exact False.elim hq3
      | cont => exact False.elim hq3
theorem bnd_plain {CX : CXT} {P : Program} {w : World} {K : PySem.W.Frag} {mg : Str → Option Value} {base : Heap} {fd : FuncData} {args : Args} {ps : List Str} {A : Around} {outer : List Env} {s : Shared} {H : Hp} {E : XK} {us : List Value} {vs : List V}
    (e0 : Env0 P w K mg base A outer s H) (hb : BindsTo s fd args (ps.zip us)) (r : Vals vs us) (hl : vs.length = ps.length) : Bnd CX P w K mg base fd args ps A outer s H E (fun xs H2 => xs = vs ∧ H2 = H) :=
  fun A' Ex Q h => hb _ _ _ _ (h s H vs us e0 Un.refl rfl (fun _ _ z => z) r hl ⟨rfl, rfl⟩)
theorem fn_sup {CX : CXT} {P : Program} {w : World} {K : PySem.W.Frag} {mg : Str → Option Value} {base : Heap} {k : Nat} {f f2 D cda cc : Addr} {name qual : Str} {st : Stmt} {dV kV doc pm ct oc : Value} {an od : Option Addr} {osl : Array (Option Value)} {N ps ps2 : List Str} {sp sp2 : Sp} {fd2 : FuncData}
    {pre post : List Stmt} {a : Expr} {es : List Expr} {p0 p1 p2 p4 p5 : Pos}
    (lk : K.lookup f = some ⟨oc, od, .func (HK.fnC name qual st [("__class__", cc)] dV kV doc pm an (.ref cda) ct), osl⟩) (hcd : codeIn K (.ref cda) qual = true) (S : ScopeS N ps (defScope st)) (T : SupT P K mg D f2 cda cc)
    (bod : defBody st = pre ++ .Expr (.Call (.Attribute (.Call (.Name "super" p0) [] [] p1) "__init__" p2) (a :: es) [] p4) p5 :: post) (hline : (p2.endLine == p4.line) = true)
    (har : ∃ ar : Arg, ((defArgs st).posonlyargs ++ (defArgs st).args).head? = some ar ∧ N[0]? = some ar.arg ∧ (defScope st).names.lookup ar.arg = some .local)
    (F2 : FnOk P w K mg base CX0 k f2 fd2 ps2 sp2) (b2 : Binds K fd2 ps2 [])
    (hst : ∀ env : Env, starEach (a :: es) env = (false, eval a env) :: starEach es env) (hpl : ∀ env : Env, (backTo p4 (starEach es env)).any (·.1) = false) (few : ∀ env : Env, methodCallForm ((a :: es).length + ([] : List Keyword).length) (backTo p4 (starEach (a :: es) env)) (backToKw p4 (keywordEach [] env)) = true)
    (hint : ∀ env : Env, env.scope = defScope st → interactive env = false) (hsw : ∀ env : Env, env.scope = defScope st → swapsWith (.Call (.Attribute (.Call (.Name "super" p0) [] [] p1) "__init__" p2) (a :: es) [] p4) none p5.line env = pure false)
    (len : ∀ vs H Q E, sp vs H Q E → vs.length = ps.length)
    (hbody : ∀ (A : Around) (outer : List Env) (s : Shared) (H : Hp) (vs : List V) (Q : VK) (E : XK), Room k (A.deeper (ksEnv qual (defScope st) s.heap.objs.size f (.ref cda) cc)) → sp vs H Q E →
      ∃ t1 ta t2, PSs (cxS CX P w K mg base N qual (defScope st) f (.ref cda) cc A outer s H E) pre t1 ∧ PA (cxS CX P w K mg base N qual (defScope st) f (.ref cda) cc A outer s H E) (a :: es) ta ∧ PSs (cxS CX P w K mg base N qual (defScope st) f (.ref cda) cc A outer s H E) post t2 ∧
        t1 { nx := supMid D sp2 ta fun σ H' => t2 { nx := fun _ H' => Q .non H', rt := Q } σ H', rt := Q } (L2.start N vs) H) :
    FnOk P w K mg base CX (k + 1) f (HK.fnC name qual st [("__class__", cc)] dV kV doc pm an (.ref cda) ct) ps sp :=
  ⟨len, fun A outer s H args us vs Q E hr e0 hb r hsp => sup_bnd lk hcd S T bod hline har F2 b2 hst hpl few hint hsw hr e0 (bnd_plain e0 hb r (len _ _ _ _ hsp)) fun s2 H2 xs ⟨ex, eH⟩ hr' => by
    subst ex eH
    exact hbody A outer s2 H2 xs Q E hr' hsp⟩
theorem fn_supStar {CX : CXT} {P : Program} {w : World} {K : PySem.W.Frag} {mg : Str → Option Value} {base : Heap} {k : Nat} {f f2 D cda cc : Addr} {name qual : Str} {st : Stmt} {dV kV doc pm ct oc : Value} {an od : Option Addr} {osl : Array (Option Value)} {N ps ps2 : List Str} {pv : Str} {sp sp2 : Sp} {fd2 : FuncData}
    {pre post : List Stmt} {a : Expr} {es : List Expr} {p0 p1 p2 p4 p5 : Pos}
    (lk : K.lookup f = some ⟨oc, od, .func (HK.fnC name qual st [("__class__", cc)] dV kV doc pm an (.ref cda) ct), osl⟩) (hcd : codeIn K (.ref cda) qual = true) (S : ScopeS N (ps ++ [pv]) (defScope st)) (hCX : CXUp CX) (T : SupT P K mg D f2 cda cc)
    (hb : ∀ us rest : List Value, us.length = ps.length → bindArgs (HK.fnC name qual st [("__class__", cc)] dV kV doc pm an (.ref cda) ct) ⟨us ++ rest, []⟩ = (newTuple rest >>= fun t => pure (ps.zip us ++ [(pv, t)])))
    (bod : defBody st = pre ++ .Expr (.Call (.Attribute (.Call (.Name "super" p0) [] [] p1) "__init__" p2) (a :: es) [] p4) p5 :: post) (hline : (p2.endLine == p4.line) = true)
    (har : ∃ ar : Arg, ((defArgs st).posonlyargs ++ (defArgs st).args).head? = some ar ∧ N[0]? = some ar.arg ∧ (defScope st).names.lookup ar.arg = some .local)
    (F2 : FnOk P w K mg base CX0 k f2 fd2 ps2 sp2) (b2 : Binds K fd2 ps2 [])
    (hst : ∀ env : Env, starEach (a :: es) env = (false, eval a env) :: starEach es env) (hpl : ∀ env : Env, (backTo p4 (starEach es env)).any (·.1) = false) (few : ∀ env : Env, methodCallForm ((a :: es).length + ([] : List Keyword).length) (backTo p4 (starEach (a :: es) env)) (backToKw p4 (keywordEach [] env)) = true)
    (hint : ∀ env : Env, env.scope = defScope st → interactive env = false) (hsw : ∀ env : Env, env.scope = defScope st → swapsWith (.Call (.Attribute (.Call (.Name "super" p0) [] [] p1) "__init__" p2) (a :: es) [] p4) none p5.line env = pure false)
    (hbody : ∀ (A : Around) (outer : List Env) (s : Shared) (H : Hp) (vs : List V) (Q : VK) (E : XK), Room k (A.deeper (ksEnv qual (defScope st) s.heap.objs.size f (.ref cda) cc)) → sp vs H Q E →
      ∃ t1 ta t2, PSs (cxS CX P w K mg base N qual (defScope st) f (.ref cda) cc A outer s H E) pre t1 ∧ PA (cxS CX P w K mg base N qual (defScope st) f (.ref cda) cc A outer s H E) (a :: es) ta ∧ PSs (cxS CX P w K mg base N qual (defScope st) f (.ref cda) cc A outer s H E) post t2 ∧
        t1 { nx := supMid D sp2 ta fun σ H' => t2 { nx := fun _ H' => Q .non H', rt := Q } σ H', rt := Q } (L2.start N vs) H) :
    FnR P w K mg base CX (k + 1) f (fun vs H Q E => ∃ ws rest, vs = ws ++ rest ∧ ws.length = ps.length ∧ rest.length ≤ sizeLine ∧ ∀ p, H p = Option.none → sp (ws ++ [V.ref p]) (upd H p (.tup rest)) Q E) := by
  intro A outer s H us vs Q E hr e0 r hsp
  obtain ⟨ws, rest, ev, hl, hz, hq⟩ := hsp
  subst ev
  obtain ⟨u1, u2, eu, r1, r2⟩ := vals_split r
  subst eu
  have hn : H s.heap.objs.size = Option.none := e0.hok.fresh (Nat.le_refl _)
  have hl1 : u1.length = ps.length := by rw [← r1.length]; exact hl
  have hl2 : u2.length ≤ sizeLine := by rw [← r2.length]; exact hz
  refine sup_bnd lk hcd S T bod hline har F2 b2 hst hpl few hint hsw hr e0 (G := fun xs H2 => ∃ p, H p = Option.none ∧ xs = ws ++ [V.ref p] ∧ H2 = upd H p (.tup rest)) (fun A' Ex Q' h => ?_) fun s2 H2 xs ⟨p, hp, ex, eH⟩ hr' => ?_
  · rw [hb u1 u2 hl1]
    refine wpAny_bind (wpAny_newTuple (wpAny_pure ?_) hl2)
    have new : ObjOk P w (upd H s.heap.objs.size (.tup rest)) (s.heap.push ({ cls := .type "tuple", data := .seq u2.toArray } : Obj)) s.heap.objs.size (.tup rest) := ⟨hz, u2, r2, ⟨_, Heap.get?_push_size _ rfl, rfl, _, rfl⟩⟩
    have un := un_laid (fs := frs outer) (s := s) (o := ({ cls := .type "tuple", data := .seq u2.toArray } : Obj)) (u := .tup rest) hn
    have z := h _ _ (ws ++ [V.ref s.heap.objs.size]) (u1 ++ [Value.ref s.heap.objs.size]) (env0_laid e0 new) un rfl (fun e s' => hCX outer s H _ _ E e s' un (fun b o q => Heap.get?_push_of_some _ q) rfl) (r1.append (.cons rfl .nil))
      (by rw [List.length_append, List.length_append, hl] <;> rfl) ⟨_, hn, rfl, rfl⟩
    rw [List.zip_append hl1.symm] at z
    exact z
  · subst ex eH
    exact hbody A outer s2 _ _ Q E hr' (hq p hp)
end SO
end Eb

namespace Eb
open PySem PySem.Spec PyProof.Rows L2 StX
abbrev DWS := List D → List D → (List D → Prop) → Prop
def spIS (B : Tb) (c : Nat) (wp : DWS) : Sp := fun vs H Q _ => ∃ (Z : Addr → Prop) (ds fs : List D) (q : List D → Prop) (p dx : Addr) (gs : List (Str × V)) (vr : List V), vs = .ref p :: vr ∧ H p = some (.ins (B.C c) dx gs) ∧ gs.map (·.1) = (B.fl c).take fs.length ∧
  RepL B (hid (fun a => Z a ∨ a = p) H) fs (gs.map (·.2)) ∧ ¬ Z p ∧ (∀ a, Z a → H a ≠ none) ∧ RepL B (hid (fun a => Z a ∨ a = p) H) ds vr ∧
  wp ds fs q ∧ ∀ fs' H' dy gs', q fs' → (∀ a o, a ≠ p → H a = some o → H' a = some o) → H' p = some (.ins (B.C c) dy gs') → gs'.map (·.1) = (B.fl c).take fs'.length → RepL B (hid (fun a => Z a ∨ a = p) H') fs' (gs'.map (·.2)) → Q .non H'
def endS (c : Nat) (q : List D → Prop) (env : List Sl) : Prop := match env[0]? with
  | some (Sl.se c' fs) => c' = c ∧ q fs
  | _ => False
def endsS (c : Nat) (q : List D → Prop) : DEnds := ⟨endS c q, fun _ _ => False, fun _ => False, fun _ => False, fun _ _ => False⟩
def wpOfS (c n m : Nat) (t : DS) : DWS := fun ds fs q => ds.length = n ∧ t (.se c fs :: (ds.map Sl.va ++ List.replicate m .un)) (endsS c q)
section
variable {P : Program} {w' : World} {K : PySem.W.Frag} {mg : Str → Option Value} {base : Heap} {name qual : Str} {st : Stmt} {f : Addr} {fd : FuncData} {N ps : List Str} {k : Nat} {B : Tb}
theorem st_startS {Z : Addr → Prop} {H : Hp} {c : Nat} {p dx : Addr} {gs : List (Str × V)} {ds fs : List D} {vs : List V} {m : Nat} (hp : H p = some (.ins (B.C c) dx gs)) (hn : gs.map (·.1) = (B.fl c).take fs.length) (rf : RepL B (hid (fun a => Z a ∨ a = p) H) fs (gs.map (·.2))) (hz : ¬ Z p) (hZ : ∀ a, Z a → H a ≠ none)
    (r : RepL B (hid (fun a => Z a ∨ a = p) H) ds vs) (hN : N.length = ds.length + 1 + m) :
    StOk ⟨B, Z, fun a => a = p, H, none⟩ (.se c fs :: (ds.map Sl.va ++ List.replicate m .un)) (wput (fun _ => none) 0 (some p)) (L2.start N (.ref p :: vs)) H := by
  have up : Same (hid (fun a => Z a ∨ a = p) H) ((⟨B, Z, fun a => a = p, H, none⟩ : Lx).vis (wput (fun _ => none) 0 (some p)) H) := hid_anti fun a g => by
    rcases g with z | z | ⟨j, z⟩
    · exact .inl z
    · exact .inr z
    · by_cases q : j = 0
      · rw [wput_same q] at z; cases z; exact .inr rfl
      · rw [wput_ne q] at z; cases z
  refine ⟨?_, fun i s e => ?_, fun a o _ h => h, fun a m => ?_, hZ, fun i q e => ?_, fun i j q e1 e2 => ?_, (fun d' l' e => by cases e), ⟨1, fun j hj => wput_ne (by omega)⟩⟩
  · rw [start_len (by rw [List.length_cons, r.len]; omega)]; simp [hN]; omega
  · cases i with
    | zero =>
      cases e
      exact ⟨p, dx, gs, rfl, by rw [start_get (by simp)]; rfl, hp, ⟨hn, rfl⟩, rf.up up⟩
    | succ i =>
      rw [List.getElem?_cons_succ] at e
      rcases env_get e with ⟨d', hd, rfl⟩ | rfl
      · obtain ⟨v, hv, rv⟩ := r.get hd
        obtain ⟨hi, e2⟩ := List.getElem?_eq_some_iff.mp hv
        exact ⟨v, by rw [start_get (by simpa using hi), ← e2]; rfl, rv.up up⟩
      · trivial
  · have e : a = p := m
    rw [e, hp]; simp
  · by_cases c : i = 0
    · rw [wput_same c] at e; cases e
      exact ⟨by rw [hp]; simp, hz, .inr rfl⟩
    · rw [wput_ne c] at e; cases e
  · by_cases c : i = 0
    · by_cases c2 : j = 0
      · rw [c, c2]
      · rw [wput_ne c2] at e2; cases e2
    · rw [wput_ne c] at e1; cases e1
theorem initS {Z : Addr → Prop} {H : Hp} {c : Nat} {p : Addr} {q : List D → Prop} {Q : VK}
    (kq : ∀ fs' H' dy gs', q fs' → (∀ a o, a ≠ p → H a = some o → H' a = some o) → H' p = some (.ins (B.C c) dy gs') → gs'.map (·.1) = (B.fl c).take fs'.length → RepL B (hid (fun a => Z a ∨ a = p) H') fs' (gs'.map (·.2)) → Q .non H') :
    Lnk ⟨B, Z, fun a => a = p, H, none⟩ w0 (wput (fun _ => none) 0 (some p)) H { nx := fun _ H' => Q .non H', rt := Q } (endsS c q) := by
  refine ⟨fun env' W' σ' H' h S' _ => ?_, fun _ _ _ _ z => z.elim, fun _ _ _ _ z => z.elim, fun _ _ _ _ _ _ z => z.elim, fun _ _ _ _ _ _ _ z => z.elim⟩
  have h : endS c q env' := h
  unfold endS at h
  split at h
  · rename_i c' fs he
    obtain ⟨rfl, hq⟩ := h
    obtain ⟨p', dx', gs, hw, hσ, h1, ⟨h2, hm⟩, h3⟩ := S'.sl 0 _ he
    have e : p' = p := hm
    subst e
    refine kq fs H' dx' gs hq (fun a o n h => S'.fr a o n h) h1 h2 (h3.up (hid_anti fun a g => ?_))
    rcases g with z | z
    · exact .inl z
    · exact .inr (.inl z)
  · exact h.elim
theorem fnIS (F : Fun K name qual st f fd) (S : FnScope N ps (defScope st)) {t : DS} {c n m : Nat} (hn : ps.length = n + 1) (hN : N.length = n + 1 + m) (hK : K = B.K)
    (body : ∀ (cdv : Value) (A : Around) (outer : List Env) (s : Shared) (H : Hp) (E : XK) (Z M : Addr → Prop) (H0 : Hp) (dl : Option (Addr × Addr)), Room k (A.deeper (envOfC qual (defScope st) s.heap.objs.size f cdv)) →
      XSs (cxOf CX0 P w' K mg base N qual (defScope st) f cdv A outer s H E).nox ⟨B, Z, M, H0, dl⟩ w0 (defBody st) t) : FnOk P w' K mg base CX0 (k + 1) f fd ps (spIS B c (wpOfS c n m t)) := by
  refine F.ok S (fun vs H Q E ⟨Z, ds, fs, _, p, dx, gs, vr, e, _, _, _, _, _, r, h, _⟩ => by rw [e, List.length_cons, r.len, h.1, hn]) fun cdv A outer s H vs Q E hr ⟨Z, ds, fs, q, p, dx, gs, vr, e, hp, hg, rf, hz, hZ, r, ⟨hl, ht⟩, kq⟩ => ?_
  subst e
  exact run_body (body cdv A outer s H E Z (fun a => a = p) H none hr) hK (st_startS hp hg rf hz hZ r (by rw [hl]; exact hN)) (initS kq) ht
end
def dSupS (c : Nat) (wp : DWS) (u : DA) : DS := fun env e => match env[0]? with
  | some (Sl.se c' fs) => c' = c ∧ u env (fun ds => wp ds fs (fun fs' => e.nx (env.set 0 (.se c fs')))) (e.ex env)
  | _ => False
theorem upd_upd {H : Hp} {p : Addr} {o o' : HO} : upd (upd H p o) p o' = upd H p o' := by
  funext a
  by_cases q : a = p
  · rw [q, upd_same, upd_same]
  · rw [upd_ne q, upd_ne q, upd_ne q]
theorem upd_id {H : Hp} {p : Addr} {o : HO} (h : H p = some o) : upd H p o = H := by
  funext a
  by_cases q : a = p
  · rw [q, upd_same, h]
  · rw [upd_ne q]
section
variable {X : Cx} {Λ : Lx} {w : WX}
theorem mid_sup {c : Nat} {wp : DWS} {u : DA} {ta : TA} {env : List Sl} {W : Ow} {σ : L2.St} {H : Hp} {E : Ends} {e : DEnds} (sa : SndA Λ w ta u) (S : StOk Λ env W σ H) (L : Lnk Λ w W H E e) (h : dSupS c wp u env e) :
    SO.supMid (Λ.B.C c) (spIS Λ.B c wp) ta E.nx σ H := by
  unfold dSupS at h
  split at h
  · rename_i c' fs hd
    obtain ⟨p, dx, gs, hw, hσ, hp, ⟨hn, hM⟩, rl⟩ := S.sl 0 _ hd
    obtain ⟨rfl, h⟩ := h
    refine ⟨p, dx, gs, hσ, hp, sa env W σ H _ _ _ S L.xok h fun ds vs H1 h1 S1 e1 r1 => ?_⟩
    have hp1 := e1.own 0 p _ hw hp
    have gz : ∀ a, (Λ.G W a ∧ a ≠ p) ∨ a = p → Λ.G W a := fun a z => z.elim (fun z => z.1) fun z => by rw [z]; exact .inr (.inl hM)
    have gy : ∀ a, Λ.G W a → (Λ.G W a ∧ a ≠ p) ∨ a = p := fun a g => by
      by_cases q : a = p
      · exact .inr q
      · exact .inl ⟨g, q⟩
    have v1 : ∀ H', Same (Λ.vis W H') (hid (fun a => (Λ.G W a ∧ a ≠ p) ∨ a = p) H') := fun H' => hid_anti gz
    have v2 : ∀ H', Same (hid (fun a => (Λ.G W a ∧ a ≠ p) ∨ a = p) H') (Λ.vis W H') := fun H' => hid_anti gy
    refine ⟨fun a => Λ.G W a ∧ a ≠ p, ds, fs, _, p, dx, gs, vs, rfl, hp1, hn, (rl.up e1.vis).up (v1 H1), fun z => z.2 rfl, fun a z => hG S1 a z.1, r1.up (v1 H1), h1, fun fs' H' dy gs' hq grow hp' hn' rf' => ?_⟩
    -- the state behind it
    have s1 : Same H1 (upd H' p (.ins (Λ.B.C c') dx gs)) := fun a o ha => by
      by_cases q : a = p
      · rw [q] at ha ⊢
        rw [upd_same, ← ha, hp1]
      · rw [upd_ne q]; exact grow a o q ha
    have S2 := S1.grow s1
    have eH : upd (upd H' p (.ins (Λ.B.C c') dx gs)) p (.ins (Λ.B.C c') dy gs') = H' := by rw [upd_upd]; exact upd_id hp'
    have sl : SlOk Λ W σ (upd (upd H' p (.ins (Λ.B.C c') dx gs)) p (.ins (Λ.B.C c') dy gs')) 0 (.se c' fs') := by
      rw [eH]
      exact ⟨p, dy, gs', hw, hσ, hp', ⟨hn', hM⟩, rf'.up (v2 H')⟩
    obtain ⟨S3, s3⟩ := S2.mut hw sl (List.getElem?_eq_some_iff.mp hd).1
    rw [eH] at S3 s3
    exact L.nx _ _ _ _ hq S3 ((e1.vis.trans (vis_same s1)).trans s3)
  · exact h.elim
theorem sup_body {c : Nat} {wp : DWS} {t1 t2 : DS} {u : DA} {r1 r2 : TS} {ra : TA} {env : List Sl} {W : Ow} {σ : L2.St} {H : Hp} {nx : L2.St → Hp → Prop} {rt : VK} {e : DEnds} (s1 : SndS Λ w r1 t1) (sa : SndA Λ w ra u) (s2 : SndS Λ w r2 t2) (S : StOk Λ env W σ H) (L : Lnk Λ w W H { nx := nx, rt := rt } e)
    (h : dSeq t1 (dSeq (dSupS c wp u) t2) env e) : r1 { nx := SO.supMid (Λ.B.C c) (spIS Λ.B c wp) ra fun σ H' => r2 { nx := nx, rt := rt } σ H', rt := rt } σ H := by
  refine s1 env W σ H { nx := SO.supMid (Λ.B.C c) (spIS Λ.B c wp) ra fun σ H' => r2 { nx := nx, rt := rt } σ H', rt := rt } { e with nx := fun env' => dSeq (dSupS c wp u) t2 env' e } S ⟨fun env' W' σ' H' a S' s => ?_, L.bk, L.ct, L.rt, L.ex⟩ h
  refine mid_sup (e := { e with nx := fun env' => t2 env' e }) (E := { nx := fun σ H' => r2 { nx := nx, rt := rt } σ H', rt := rt }) sa S' ⟨fun env2 W2 σ2 H2 a2 S2 z2 => ?_, fun env2 W2 σ2 H2 a2 S2 z2 => L.bk env2 W2 σ2 H2 a2 S2 (s.trans z2), fun env2 W2 σ2 H2 a2 S2 z2 => L.ct env2 W2 σ2 H2 a2 S2 (s.trans z2), L.rt, fun _ _ _ _ _ _ _ a2 S2 z2 => L.ex _ _ _ _ _ _ _ a2 S2 (s.trans z2)⟩ a
  exact s2 env2 W2 σ2 H2 { nx := nx, rt := rt } e S2 (L.on (s.trans z2)) a2
end
theorem PA_nox {X : Cx} {es : List Expr} {t : TA} (h : PA X.nox es t) : PA X es t := ⟨fun pos pins s σ H Q I hw =>
  wpAny_mono (h.run pos pins s σ H Q (I.wish _) hw) (fun _ _ ⟨v, H', I', r, q⟩ => ⟨v, H', I'.unwish, r, q⟩) fun _ _ z => False.elim z⟩
def wpStar (n : Nat) (wp : DWI) : DWI := fun ds q x => (n ≤ ds.length ∧ ds.length ≤ 100000) ∧ wp (ds.take n ++ [.tup (ds.drop n)]) q x
theorem star_laid {B : Tb} {Z : Addr → Prop} {H : Hp} {p pt : Addr} {n : Nat} {ds : List D} {vr : List V} (hz : ∀ a, Z a → H a ≠ none) (hp : H p ≠ none) (ht : H pt = none) (r : RepL B (hid (fun a => Z a ∨ a = p) H) ds vr) :
    RepL B (hid (fun a => Z a ∨ a = p) (upd H pt (.tup (vr.drop n)))) (ds.take n ++ [.tup (ds.drop n)]) (vr.take n ++ [.ref pt]) := by
  have np : pt ≠ p := fun z => hp (by rw [← z]; exact ht)
  have v1 : Same (hid (fun a => Z a ∨ a = p) H) (hid (fun a => Z a ∨ a = p) (upd H pt (.tup (vr.drop n)))) := hid_same (same_new ht)
  refine ((r.take n).up v1).app (.one ⟨pt, vr.drop n, rfl, sqT_of (hid_some.mpr ⟨fun z => z.elim (fun z => hz _ z ht) np, upd_same⟩), (r.drop n).up v1⟩)
theorem star_raw0 {B : Tb} {c n : Nat} {wp : DWI} {vs : List V} {H : Hp} {Q : VK} {E : XK} (h : spI0 B c (wpStar n wp) vs H Q E) :
    ∃ ws rest, vs = ws ++ rest ∧ ws.length = n + 1 ∧ rest.length ≤ sizeLine ∧ ∀ p, H p = Option.none → spI0 B c wp (ws ++ [V.ref p]) (upd H p (.tup rest)) Q E := by
  obtain ⟨Z, ds, q, p, dx, vr, e, hp, hz, hZ, r, ⟨hl, ht⟩, kq⟩ := h
  subst e
  have hn : H p ≠ none := by rw [hp]; simp
  refine ⟨.ref p :: vr.take n, vr.drop n, by rw [List.cons_append, List.take_append_drop], by rw [List.length_cons, List.length_take, r.len]; omega, by rw [List.length_drop, r.len]; exact sz (by omega), fun pt hpt => ?_⟩
  have np : p ≠ pt := fun z => hn (by rw [z]; exact hpt)
  exact ⟨Z, ds.take n ++ [.tup (ds.drop n)], q, p, dx, vr.take n ++ [.ref pt], rfl, by rw [upd_ne np]; exact hp, hz, fun a z => some_mono (same_new hpt) (hZ a z), star_laid hZ hn hpt r, ht, fun fs H' dy gs hq grow => kq fs H' dy gs hq fun a o na ha => grow a o na (same_new hpt _ _ ha)⟩
def DfN (K : PySem.W.Frag) (dV : Value) (n : Nat) : Prop := (n = 0 ∧ dV = .none) ∨ (n ≠ 0 ∧ ∃ T o its m, dV = .ref T ∧ K.lookup T = some o ∧ o.data = .seq its m ∧ its.size = n)
structure SupF (P : Program) (K : PySem.W.Frag) (mg : Str → Option Value) (name qual : Str) (st : Stmt) (f D f2 : Addr) (nd : Nat) : Prop where
  ex : ∃ (oc : Value) (od : Option Addr) (osl : Array (Option Value)) (dV kV doc pm : Value) (an : Option Addr) (ct : Value) (cda cc : Addr), K.lookup f = some ⟨oc, od, .func (HK.fnC name qual st [("__class__", cc)] dV kV doc pm an (.ref cda) ct), osl⟩ ∧ PySem.W.codeIn K (.ref cda) qual = true ∧ DfN K dV nd ∧ SO.SupT P K mg D f2 cda cc
structure SupB (N ps : List Str) (st : Stmt) (pre post : List Stmt) (a : Expr) (es : List Expr) : Prop where
  sc : SO.ScopeS N ps (defScope st)
  tx : ∃ p0 p1 p2 p4 p5, defBody st = pre ++ .Expr (.Call (.Attribute (.Call (.Name "super" p0) [] [] p1) "__init__" p2) (a :: es) [] p4) p5 :: post ∧ (p2.endLine == p4.line) = true ∧
    (∀ env : Env, starEach (a :: es) env = (false, eval a env) :: starEach es env) ∧ (∀ env : Env, (backTo p4 (starEach es env)).any (·.1) = false) ∧ (∀ env : Env, methodCallForm ((a :: es).length + ([] : List Keyword).length) (backTo p4 (starEach (a :: es) env)) (backToKw p4 (keywordEach [] env)) = true) ∧
    (∀ env : Env, env.scope = defScope st → interactive env = false) ∧ ∀ env : Env, env.scope = defScope st → swapsWith (.Call (.Attribute (.Call (.Name "super" p0) [] [] p1) "__init__" p2) (a :: es) [] p4) none p5.line env = pure false
  ar : ∃ ar : Arg, ((defArgs st).posonlyargs ++ (defArgs st).args).head? = some ar ∧ N[0]? = some ar.arg ∧ (defScope st).names.lookup ar.arg = some .local
section
variable {P : Program} {w' : World} {K : PySem.W.Frag} {mg : Str → Option Value} {base : Heap} {name qual : Str} {st : Stmt} {f f2 : Addr} {fd2 : FuncData} {N ps ps2 : List Str} {pv : Str} {k : Nat} {B : Tb} {pre post : List Stmt} {a : Expr} {es : List Expr} {t1 t2 : DS} {u : DA} {c nf n m : Nat} {wp2 : DWS}
def BindAll (K : PySem.W.Frag) (name qual : Str) (st : Stmt) (ps : List Str) (nd : Nat) : Prop :=
  ∀ (clo : List (Str × Addr)) (dV kV doc pm : Value) (an : Option Addr) (cdv ct : Value), DfN K dV nd → Binds K (HK.fnC name qual st clo dV kV doc pm an cdv ct) ps []
theorem bindN (h : ∀ (clo : List (Str × Addr)) (kV doc pm : Value) (an : Option Addr) (cdv ct : Value) (us : List Value), us.length = ps.length → bindArgs (HK.fnC name qual st clo .none kV doc pm an cdv ct) ⟨us, []⟩ = pure (ps.zip us)) : BindAll K name qual st ps 0 := fun clo dV kV doc pm an cdv ct hD => by
  rcases hD with ⟨_, rfl⟩ | ⟨n, _⟩
  · exact .all (h clo kV doc pm an cdv ct)
  · exact absurd rfl n
theorem bindD {nd : Nat} (hd : nd ≠ 0) (h : ∀ (clo : List (Str × Addr)) (T : Addr) (kV doc pm : Value) (an : Option Addr) (cdv ct : Value) (us its : List Value), us.length = ps.length → its.length = nd → ∃ k, bindArgs (HK.fnC name qual st clo (.ref T) kV doc pm an cdv ct) ⟨us, []⟩ = seqItems? (.ref T) >>= k ∧ k (some its.toArray) = pure (ps.zip us)) : BindAll K name qual st ps nd := fun clo dV kV doc pm an cdv ct hD => by
  rcases hD with ⟨e, _⟩ | ⟨_, T, o, its, m, rfl, lT, oT, hz⟩
  · exact absurd e hd
  · intro s us X hl
    rw [List.append_nil] at hl ⊢
    obtain ⟨k, e1, e2⟩ := h clo T kV doc pm an cdv ct us its.toList hl (by rw [Array.length_toList]; exact hz)
    refine BindsTo.of_looks fun M => ?_
    rw [e1]
    exact looks_items X lT oT (.of_pure e2)
theorem fnISup0 {nd : Nat} (F : SupF P K mg name qual st f (B.C c) f2 nd) (T : SupB N ps st pre post a es) (hba : BindAll K name qual st ps nd) (F2 : FnOk P w' K mg base CX0 k f2 fd2 ps2 (spIS B c wp2)) (b2 : Binds K fd2 ps2 []) (hn : ps.length = n + 1) (hN : N.length = n + 1 + m) (hK : K = B.K) (hfl : (B.fl c).length = nf)
    (body : ∀ (cda cc : Addr) (A : Around) (outer : List Env) (s : Shared) (H : Hp) (E : XK) (Z M : Addr → Prop) (H0 : Hp) (dl : Option (Addr × Addr)), Room k (A.deeper (PySem.W.ksEnv qual (defScope st) s.heap.objs.size f (.ref cda) cc)) →
      XSs (SO.cxS CX0 P w' K mg base N qual (defScope st) f (.ref cda) cc A outer s H E).nox ⟨B, Z, M, H0, dl⟩ w0 pre t1 ∧ XA (SO.cxS CX0 P w' K mg base N qual (defScope st) f (.ref cda) cc A outer s H E).nox ⟨B, Z, M, H0, dl⟩ w0 (a :: es) u ∧ XSs (SO.cxS CX0 P w' K mg base N qual (defScope st) f (.ref cda) cc A outer s H E).nox ⟨B, Z, M, H0, dl⟩ w0 post t2) :
    FnR P w' K mg base CX0 (k + 1) f (spI0 B c (wpOfI c nf n m (dSeq t1 (dSeq (dSupS c wp2 u) t2)))) := by
  obtain ⟨oc, od, osl, dV, kV, doc, pm, an, ct, cda, cc, lk, hcd, hdf, TT⟩ := F.ex
  obtain ⟨p0, p1, p2, p4, p5, bod, hline, hst, hpl, few, hint, hsw⟩ := T.tx
  refine raw0 (SO.fn_sup lk hcd T.sc TT bod hline T.ar F2 b2 hst hpl few hint hsw (fun vs H Q E ⟨Z, ds, _, p, dx, vr, e, _, _, _, r, h, _⟩ => by rw [e, List.length_cons, r.len, h.1, hn]) fun A outer s H vs Q E hr ⟨Z, ds, q, p, dx, vr, e, hp, hz, hZ, r, ⟨hl, ht⟩, kq⟩ => ?_) (hba _ _ _ _ _ _ _ _ hdf)
  subst e
  obtain ⟨x1, xa, x2⟩ := body cda cc A outer s H E Z (fun a => a = p) H none hr
  obtain ⟨r1, q1, s1⟩ := x1.ex hK
  obtain ⟨ra, qa, sa⟩ := xa.ex hK
  obtain ⟨r2, q2, s2⟩ := x2.ex hK
  exact ⟨r1, ra, r2, q1.nox, PA_nox qa, q2.nox, sup_body s1 sa s2 (st_startI hp hz hZ r (by rw [hl]; exact hN)) (initL hp hfl kq) ht⟩
def BindStar (K : PySem.W.Frag) (name qual : Str) (st : Stmt) (ps : List Str) (pv : Str) : Prop :=
  ∀ (clo : List (Str × Addr)) (dV kV doc pm : Value) (an : Option Addr) (cdv ct : Value), DfN K dV 0 → ∀ (us rest : List Value), us.length = ps.length → bindArgs (HK.fnC name qual st clo dV kV doc pm an cdv ct) ⟨us ++ rest, []⟩ = (newTuple rest >>= fun t => pure (ps.zip us ++ [(pv, t)]))
theorem bindV (h : ∀ (clo : List (Str × Addr)) (kV doc pm : Value) (an : Option Addr) (cdv ct : Value) (us rest : List Value), us.length = ps.length → bindArgs (HK.fnC name qual st clo .none kV doc pm an cdv ct) ⟨us ++ rest, []⟩ = (newTuple rest >>= fun t => pure (ps.zip us ++ [(pv, t)]))) : BindStar K name qual st ps pv := fun clo dV kV doc pm an cdv ct hD => by
  rcases hD with ⟨_, rfl⟩ | ⟨n, _⟩
  · exact h clo kV doc pm an cdv ct
  · exact absurd rfl n
theorem fnISupV0 (F : SupF P K mg name qual st f (B.C c) f2 0) (T : SupB N (ps ++ [pv]) st pre post a es) (hb : BindStar K name qual st ps pv) (F2 : FnOk P w' K mg base CX0 k f2 fd2 ps2 (spIS B c wp2)) (b2 : Binds K fd2 ps2 []) (hn : ps.length = n + 1) (hN : N.length = n + 1 + 1 + m) (hK : K = B.K) (hfl : (B.fl c).length = nf)
    (body : ∀ (cda cc : Addr) (A : Around) (outer : List Env) (s : Shared) (H : Hp) (E : XK) (Z M : Addr → Prop) (H0 : Hp) (dl : Option (Addr × Addr)), Room k (A.deeper (PySem.W.ksEnv qual (defScope st) s.heap.objs.size f (.ref cda) cc)) →
      XSs (SO.cxS CX0 P w' K mg base N qual (defScope st) f (.ref cda) cc A outer s H E).nox ⟨B, Z, M, H0, dl⟩ w0 pre t1 ∧ XA (SO.cxS CX0 P w' K mg base N qual (defScope st) f (.ref cda) cc A outer s H E).nox ⟨B, Z, M, H0, dl⟩ w0 (a :: es) u ∧ XSs (SO.cxS CX0 P w' K mg base N qual (defScope st) f (.ref cda) cc A outer s H E).nox ⟨B, Z, M, H0, dl⟩ w0 post t2) :
    FnR P w' K mg base CX0 (k + 1) f (spI0 B c (wpStar n (wpOfI c nf (n + 1) m (dSeq t1 (dSeq (dSupS c wp2 u) t2))))) := by
  obtain ⟨oc, od, osl, dV, kV, doc, pm, an, ct, cda, cc, lk, hcd, hdf, TT⟩ := F.ex
  obtain ⟨p0, p1, p2, p4, p5, bod, hline, hst, hpl, few, hint, hsw⟩ := T.tx
  have R := SO.fn_supStar (sp := spI0 B c (wpOfI c nf (n + 1) m (dSeq t1 (dSeq (dSupS c wp2 u) t2)))) lk hcd T.sc cxUp_none TT (hb _ _ _ _ _ _ _ _ hdf) bod hline T.ar F2 b2 hst hpl few hint hsw fun A outer s H vs Q E hr ⟨Z, ds, q, p, dx, vr, e, hp, hz, hZ, r, ⟨hl, ht⟩, kq⟩ => by
    subst e
    obtain ⟨x1, xa, x2⟩ := body cda cc A outer s H E Z (fun a => a = p) H none hr
    obtain ⟨r1, q1, s1⟩ := x1.ex hK
    obtain ⟨ra, qa, sa⟩ := xa.ex hK
    obtain ⟨r2, q2, s2⟩ := x2.ex hK
    exact ⟨r1, ra, r2, q1.nox, PA_nox qa, q2.nox, sup_body s1 sa s2 (st_startI hp hz hZ r (by rw [hl]; omega)) (initL hp hfl kq) ht⟩
  intro A outer s H us vs Q E hr e0 r hsp
  obtain ⟨ws, rest, h1, h2, h3⟩ := star_raw0 hsp
  exact R A outer s H us vs Q E hr e0 r ⟨ws, rest, h1, h2.trans hn.symm, h3⟩
end
end Eb

namespace Eb
namespace HK
open PySem PySem.Spec PyProof.Rows L2 PySem.SupX
theorem exo_ok {K : Fg} {C : Addr} {newId : String} {bm0 : List Value} (h : exoB K C newId bm0 = true) :
    ∃ nm q N bs bm sn sub ab col dd k0 k1 k2 k3 k5, K.lookup C = some (excClassObj nm q C N bs bm true sn sub ab col dd k0 k1 k2 k3 k5 newId) ∧ refsT bm0 bm = true := by
  unfold exoB at h
  split at h
  · rename_i t dd cd sl e
    obtain ⟨h1, h⟩ := ba h
    split at h
    · rename_i C' bm' k0 k1 k2 k3 n k5 em es
      obtain ⟨h2, h⟩ := ba h
      obtain ⟨h3, h⟩ := ba h
      obtain ⟨h4, h⟩ := ba h
      obtain ⟨h5, h6⟩ := ba h
      have t1 := of_decide_eq_true h1
      have t2 := of_decide_eq_true h2
      have t3 := of_decide_eq_true h3
      obtain ⟨nm, bs, mro, N, q, hd, sn, sub, ab, col, del⟩ := cd
      dsimp only at em h4 h5
      have es2 : sl = #[k0, k1, k2, k3, some (.builtin n), k5] := Array.toList_inj.mp es
      cases del with
      | true => cases h4
      | false =>
        refine ⟨nm, q, N, bs, bm', sn, sub, ab, col, dd, k0, k1, k2, k3, k5, ?_, h6⟩
        rw [e, t1, em, t2, h5, es2, t3]
    · cases h
  · cases h
theorem sup_ok {P : Program} {b : Bs} (ok : BsOk b) {K : Fg} {mg : Str → Option Value} {cn fld qual : Str} {C fI cda cc : Addr} {st : Stmt} (gC : mg cn = some (.ref C)) (nsu : mg "super" = none)
    (sd : SupDef fld (defArgs st) (defBody st) (defScope st).names (defScope st).more) (hsc : defScope st = iS (defScope st).names (defScope st).more) (e : fnW K fI = Dq.val ⟨fI, "__init__", qual, st⟩) (c0 : fnB K fI qual [("__class__", cc)] .none .none = true)
    (c1 : codB K fI cda = true) (c : supB P b K C fI cda cc fld = true) : SupTxt b P K mg cn fld C fI := by
  obtain ⟨a1, c⟩ := ba c
  obtain ⟨a2, c⟩ := ba c
  obtain ⟨a3, c⟩ := ba c
  obtain ⟨a4, c⟩ := ba c
  obtain ⟨a5, c⟩ := ba c
  obtain ⟨a6, c⟩ := ba c
  obtain ⟨a7, c⟩ := ba c
  obtain ⟨a8, c⟩ := ba c
  obtain ⟨a9, c⟩ := ba c
  obtain ⟨a10, c⟩ := ba c
  obtain ⟨a11, c⟩ := ba c
  obtain ⟨a12, c⟩ := ba c
  obtain ⟨a13, c⟩ := ba c
  obtain ⟨a14, c⟩ := ba c
  obtain ⟨a15, c⟩ := ba c
  obtain ⟨a16, c⟩ := ba c
  obtain ⟨a17, c⟩ := ba c
  obtain ⟨a18, a19⟩ := ba c
  refine { gC := gC, cls := exo_ok a1, sa := eqO_ok a2, ga := eqO_ok a3, gg := eqO_ok a4, noN := eqO_ok a5, iC := eqO_ok a6, tC := of_decide_eq_true a7, kC := a8, exC := of_decide_eq_true a9, veC := of_decide_eq_true a10, ok := ok, slf := of_decide_eq_true a11, tyC := of_decide_eq_true a12, hdC := a13, te := of_decide_eq_true a14, opq := eqO_ok a15, sup := eqO_ok a16, nsu := nsu, top := of_decide_eq_true a17, fn := ?_ }
  obtain ⟨oc, od, osl, doc, pm, an, cdv, ct, h1, h2⟩ := fn_get (d := ⟨fI, "__init__", qual, st⟩) e c0
  have h1' : K.lookup fI = some ⟨oc, od, .func (fnC "__init__" qual st [("__class__", cc)] .none .none doc pm an cdv ct), osl⟩ := h1
  unfold codB at c1
  rw [h1'] at c1
  have ec : cdv = .ref cda := of_decide_eq_true c1
  subst ec
  unfold filB at a18
  unfold celB at a19
  split at a18
  · rename_i ccl cdd vs ccs e1
    unfold fileB at a18
    split at a18
    · rename_i file tf e2
      split at a19
      · rename_i cl cld D csl e3
        have eD : D = C := of_decide_eq_true a19
        subst eD
        refine ⟨qual, defArgs st, defBody st, (defScope st).names, (defScope st).more, oc, od, doc, pm, an, cda, ct, cc, osl, ccl, cdd, vs, ccs, file, tf, cl, cld, csl, sd, ?_, h2, e1, e2, a18, e3⟩
        rw [← hsc]
        exact h1'
      · cases a19
    · cases a18
  · cases a18
end HK
end Eb

namespace Eb
open PySem PySem.Spec PyProof.Rows L2
def keyD : D → Option Key
  | .int i => some (.inl i)
  | .str x => some (.inr x)
  | _ => none
def dOf : Key → D
  | .inl i => .int i
  | .inr x => .str x
def valD : List Key → List D → Key → Option D
  | k :: ks, d :: ds, key => if k = key then some d else valD ks ds key
  | _, _, _ => none
def putKs (ks : List Key) (key : Key) : List Key := if ks.any (fun k => decide (k = key)) then ks else ks ++ [key]
def putDs (ks : List Key) (ds : List D) (key : Key) (d : D) : List D := if ks.any (fun k => decide (k = key)) then (ks.zip ds).map (fun p => if p.1 = key then d else p.2) else ds ++ [d]
theorem keyD_rep {B : Tb} {H : Hp} {d : D} {v : V} {k : Key} (h : keyD d = some k) (r : Rep B H d v) : v = kV k := by
  cases d <;> first | (cases h; done) | skip
  · cases h; exact r
  · cases h; exact r
theorem dOf_rep {B : Tb} {H : Hp} (k : Key) : Rep B H (dOf k) (kV k) := by cases k <;> exact rfl
section
variable {B : Tb} {H : Hp}
theorem valD_rep : ∀ {kvs : List (Key × V)} {ds : List D} {key : Key}, RepL B H ds (kvs.map (·.2)) → (∀ d, valD (kvs.map (·.1)) ds key = some d → ∃ v, valV kvs key = some v ∧ Rep B H d v) ∧ (valD (kvs.map (·.1)) ds key = none → valV kvs key = none)
  | [], ds, key, r => ⟨fun d h => (by cases ds <;> cases h), fun _ => rfl⟩
  | (k, v) :: kvs, [], key, r => by cases (show v :: kvs.map (·.2) = [] from r)
  | (k, v) :: kvs, d :: ds, key, r => by
    obtain ⟨v', r', e, r1, r2⟩ := r
    injection e with e1 e2
    subst e1 e2
    obtain ⟨h1, h2⟩ := valD_rep (key := key) r2
    show (∀ d', (if k = key then some d else valD (kvs.map (·.1)) ds key) = some d' → _) ∧ _
    by_cases c : k = key
    · refine ⟨fun d' h => ?_, fun h => ?_⟩
      · rw [if_pos c] at h
        cases h
        exact ⟨v, valV_pos (p := (k, v)) c, r1⟩
      · have h : (if k = key then some d else valD (kvs.map (·.1)) ds key) = none := h
        rw [if_pos c] at h
        cases h
    · refine ⟨fun d' h => ?_, fun h => ?_⟩
      · rw [if_neg c] at h
        rw [valV_neg (p := (k, v)) c]
        exact h1 _ h
      · have h : (if k = key then some d else valD (kvs.map (·.1)) ds key) = none := h
        rw [if_neg c] at h
        rw [valV_neg (p := (k, v)) c]
        exact h2 h
theorem any_names {kvs : List (Key × V)} {key : Key} : ((kvs.map (·.1)).any fun k => decide (k = key)) = kvs.any fun kv => decide (kv.1 = key) := by rw [List.any_map]; rfl
theorem put_names {kvs : List (Key × V)} {key : Key} {y : V} : (putK kvs key y).map (·.1) = putKs (kvs.map (·.1)) key := by
  unfold putK putKs
  rw [any_names]
  cases e : kvs.any fun kv => decide (kv.1 = key) with
  | true =>
    simp only [if_true, List.map_map]
    refine List.map_congr_left fun kv _ => ?_
    by_cases z : kv.1 = key
    · simp [z]
    · simp [z]
  | false => simp
theorem RepL.put {kvs : List (Key × V)} {ds : List D} {key : Key} {d : D} {y : V} (r : RepL B H ds (kvs.map (·.2))) (rd : Rep B H d y) : RepL B H (putDs (kvs.map (·.1)) ds key d) ((putK kvs key y).map (·.2)) := by
  unfold putK putDs
  rw [any_names]
  cases e : kvs.any fun kv => decide (kv.1 = key) with
  | true =>
    simp only [if_true]
    clear e
    induction kvs generalizing ds with
    | nil =>
      cases ds with
      | nil => exact rfl
      | cons => obtain ⟨_, _, e, _⟩ := r; cases e
    | cons kv kvs ih =>
      cases ds with
      | nil => cases (show kv.2 :: kvs.map (·.2) = [] from r)
      | cons d0 ds =>
        obtain ⟨v', r', e, r1, r2⟩ := r
        injection e with e1 e2
        subst e1 e2
        show RepL B H ((if kv.1 = key then d else d0) :: _) ((if kv.1 = key then (kv.1, y) else kv).2 :: _)
        refine RepL.cons ?_ (ih r2)
        by_cases z : kv.1 = key
        · rw [if_pos z, if_pos z]; exact rd
        · rw [if_neg z, if_neg z]; exact r1
  | false =>
    simp only [Bool.false_eq_true, if_false, List.map_append]
    exact r.app (.one rd)
end
section
variable {X : Cx} {Λ : Lx} {w : WX} {a b c e o i : Expr} {es : List Expr} {ta tb tc t : DE} {tA tB : DT} {pos p apos cpos : Pos} {st : Stmt}
theorem rep_dic {W : Ow} {H : Hp} {ks : List Key} {ds : List D} {v : V} (h : Rep Λ.B (Λ.vis W H) (.dic ks ds) v) : ∃ p ob kvs, v = .ref p ∧ H p = some (.frz ob (.dK kvs)) ∧ kvs.map (·.1) = ks ∧ RepL Λ.B (Λ.vis W H) ds (kvs.map (·.2)) := by
  obtain ⟨p, ob, kvs, e, h1, h2, h3⟩ := h
  exact ⟨p, ob, kvs, e, hid_le _ _ h1, h2, h3⟩
theorem dget_rep {W : Ow} {H : Hp} {p : Addr} {kvs : List (Key × V)} {ds : List D} {key : Key} (hp : Rd H p (.dK kvs)) (r : RepL Λ.B (Λ.vis W H) ds (kvs.map (·.2))) :
    (∀ d, valD (kvs.map (·.1)) ds key = some d → ∃ v, DGet H p (kV key) (some v) ∧ Rep Λ.B (Λ.vis W H) d v) ∧ (valD (kvs.map (·.1)) ds key = none → DGet H p (kV key) none) := by
  obtain ⟨h1, h2⟩ := valD_rep (key := key) r
  refine ⟨fun d h => ?_, fun h => ?_⟩
  · obtain ⟨v, hv, rv⟩ := h1 d h
    exact ⟨v, .inl ⟨kvs, key, hp, rfl, hv.symm⟩, rv⟩
  · exact .inl ⟨kvs, key, hp, rfl, (h2 h).symm⟩
def dDGet (ta tb : DE) : DE := fun env q x => ta env (fun d => tb env (fun k => match d, keyD k with
  | .dic ks ds, some key => match valD ks ds key with
    | some z => q z
    | none => False
  | _, _ => False) x) x
theorem xe_dgt (hu : X.A.units + 64 < cLine) (ha : XE X Λ w o ta) (hb : XE X Λ w i tb) (hs : NoSl i := by exact fun _ _ => rfl) : XE X Λ w (.Subscript o i pos) (dDGet ta tb) := ⟨fun hK => by
  obtain ⟨ra, pa, sa⟩ := ha.ex hK
  obtain ⟨rb, pb, sb⟩ := hb.ex hK
  refine ⟨_, pe_dget (by omega) pa pb hs, fun env W σ H Q q x S hx h k => sa env W σ H _ _ x S hx h fun d v H1 h1 S1 e1 r1 => sb env W σ H1 _ _ x S1 (hx.on e1) h1 fun d2 v2 H2 h2 S2 e2 r2 => ?_⟩
  cases d <;> first | exact h2.elim | skip
  rename_i ks ds
  cases hk : keyD d2 with
  | none => rw [hk] at h2; exact h2.elim
  | some key =>
    rw [hk] at h2
    dsimp only at h2
    cases hz : valD ks ds key with
    | none => rw [hz] at h2; exact h2.elim
    | some z =>
      rw [hz] at h2
      obtain ⟨p, ob, kvs, rfl, hp, rfl, rl⟩ := rep_dic (r1.up e2.vis)
      obtain ⟨v, g, rv⟩ := (dget_rep (key := key) (.inr ⟨_, hp⟩) rl).1 z hz
      cases keyD_rep hk r2
      exact ⟨p, v, rfl, g, k _ _ H2 h2 S2 (e1.trans e2) rv⟩⟩
def dItD (t : DE) : DA := fun env q x => t env (fun d => match d with
  | .dic ks _ => q (ks.map dOf)
  | _ => False) x
theorem it_keys {W : Ow} {H : Hp} {p : Addr} {ob : Obj} {kvs : List (Key × V)} (h : Λ.vis W H p = some (.frz ob (.dK kvs))) : ItOk Λ W H (Itk p ob kvs) ((kvs.map (·.1)).map dOf) where
  go := fun i env' W' σ' H' hi S s => ⟨hid_le _ _ (s _ _ h), by simpa using hi⟩
  stop := fun env' W' σ' H' S s => ⟨hid_le _ _ (s _ _ h), by simp⟩
  yld := fun i x env' W' σ' H' H'' hi S s y => by
    obtain ⟨rfl, k, v, hk, rfl⟩ := y
    refine ⟨Same.refl _, dOf k, ?_, dOf_rep k⟩
    rw [List.getElem?_map, List.getElem?_map, hk]
    rfl
theorem xi_dic {tg : Expr} (h : XE X Λ w a t) : XI X Λ w tg a (dItD t) := ⟨fun hK => by
  obtain ⟨r, p, s⟩ := h.ex hK
  refine ⟨_, pi_keys p, fun env W σ H R q x S hx hh k => s env W σ H _ _ x S hx hh fun d v H1 h1 S1 e1 r1 => ?_⟩
  cases d with
  | dic ks ds =>
    obtain ⟨p, ob, kvs, rfl, h2, rfl, r2⟩ := r1
    exact ⟨p, ob, rfl, .inl ⟨kvs, hid_le _ _ h2, k _ _ H1 h1 S1 e1 (it_keys h2)⟩⟩
  | _ => exact h1.elim⟩
end
end Eb

namespace Eb
open PySem PySem.Spec PyProof.Rows L2
def tLk (t : TS) : TS := fun D σ H => ∃ d u, H d = some u ∧ Mut (some u) ∧ ∀ od, t D σ (upd H d (.frz od u))
theorem ps_lk {X : Cx} {st : Stmt} {t : TS} (h : PS X st t) : PS X st (tLk t) := ⟨fun pins s σ H D I hw => by
  obtain ⟨d, u, hd, mu, hw⟩ := hw
  obtain ⟨od, I1⟩ := I.lock hd mu
  exact h.run pins s σ _ D I1 (hw od)⟩
def tLkA (t : TE) : TE := fun σ H Q => t σ H fun v H1 => ∃ d u, H1 d = some u ∧ Mut (some u) ∧ ∀ od, Q v (upd H1 d (.frz od u))
theorem pe_lkA {X : Cx} {e : Expr} {t : TE} (h : PE X e t) : PE X e (tLkA t) := ⟨fun pins s σ H Q I hw =>
  thn (h.run pins s σ H _ I hw) fun u s1 ⟨v, H1, I1, rv, d, o, hd, mu, q⟩ => by
    obtain ⟨od, I2⟩ := I1.lock hd mu
    exact ⟨v, _, I2, rv, q od⟩⟩
section
variable {Λ : Lx} {env : List Sl} {W : Ow} {σ : L2.St} {H H' : Hp}
theorem own_atD {i : Nat} {ks : List Key} {ds : List D} (S : StOk Λ env W σ H) (h : env[i]? = some (.od ks ds)) :
    ∃ p kvs, W i = some p ∧ σ[i]? = some (some (.ref p)) ∧ H p = some (.dK kvs) ∧ kvs.map (·.1) = ks ∧ RepL Λ.B (Λ.vis W H) ds (kvs.map (·.2)) ∧ ¬ Λ.M p := S.sl i _ h
theorem StOk.putOwnD (S : StOk Λ env W σ H) (S' : StOk Λ env W σ H') (e : Ev Λ W H H') {i : Nat} {p : Addr} {ks : List Key} {ds : List D} {kvs : List (Key × V)} (hp : H p = none) (h : H' p = some (.dK kvs)) (hk : kvs.map (·.1) = ks) (r : RepL Λ.B (hid (fun a => a = p) (Λ.vis W H')) ds (kvs.map (·.2))) (hi : i < env.length) :
    StOk Λ (env.set i (.od ks ds)) (wput W i (some p)) (σ.set i (some (.ref p))) H' ∧ Same (Λ.vis W H) (Λ.vis (wput W i (some p)) H') := by
  obtain ⟨S2, v1, v2⟩ := S.hide S' e (i := i) hp (by rw [h]; simp) (.inr hi)
  have hpp : ¬ Λ.G W p := S.fresh hp
  refine ⟨⟨by rw [List.length_set, List.length_set]; exact S.len, fun j x ej => ?_, S2.fr, S2.mx, S2.zx, S2.wx, S2.wi, S2.dl, S2.wf⟩, v1⟩
  by_cases q : j = i
  · subst q
    rw [List.getElem?_set_self hi] at ej
    cases ej
    exact ⟨p, kvs, wput_same rfl, List.getElem?_set_self (by rw [S.len]; exact hi), h, hk, r.up v2, fun z => hpp (.inr (.inl z))⟩
  · rw [List.getElem?_set_ne (Ne.symm q)] at ej
    have z := S2.sl j x (by rw [List.getElem?_set_ne (Ne.symm q)]; exact ej)
    have eq : (σ.set i (some (V.ref p)))[j]? = σ[j]? := List.getElem?_set_ne (Ne.symm q)
    exact z.gen (List.length_set ..) eq (Same.refl _) (fun _ _ _ h => h) fun _ _ _ _ _ h => h
theorem mut_ownD {i : Nat} {ks ks' : List Key} {ds ds' : List D} {p : Addr} {kvs' : List (Key × V)} (S : StOk Λ env W σ H) (h : env[i]? = some (.od ks ds)) (hw : W i = some p) (hm : ¬ Λ.M p) (hs : σ[i]? = some (some (.ref p))) (hk : kvs'.map (·.1) = ks') (r : RepL Λ.B (Λ.vis W H) ds' (kvs'.map (·.2))) :
    StOk Λ (env.set i (.od ks' ds')) W σ (upd H p (.dK kvs')) ∧ Same (Λ.vis W H) (Λ.vis W (upd H p (.dK kvs'))) := by
  have v1 : Same (Λ.vis W H) (Λ.vis W (upd H p (.dK kvs'))) := hid_grow fun a u g ha => ⟨g, by rw [upd_ne (show a ≠ p from fun z => g (.inr (.inr ⟨i, by rw [z]; exact hw⟩)))]; exact ha⟩
  exact S.mut hw (s := .od ks' ds') ⟨p, kvs', hw, hs, upd_same, hk, r.up v1, hm⟩ (List.getElem?_eq_some_iff.mp h).1
theorem StOk.freezeD (S : StOk Λ env W σ H) {i : Nat} {ks : List Key} {ds : List D} (h : env[i]? = some (.od ks ds)) : ∃ p kvs, H p = some (.dK kvs) ∧ ∀ ob,
    StOk Λ (env.set i (.va (.dic ks ds))) (wput W i none) σ (upd H p (.frz ob (.dK kvs))) ∧ Same (Λ.vis W H) (Λ.vis (wput W i none) (upd H p (.frz ob (.dK kvs)))) := by
  obtain ⟨p, kvs, h0, h1, h2, h3, h4, h5⟩ := own_atD S h
  refine ⟨p, kvs, h2, fun ob => ?_⟩
  have hi := (List.getElem?_eq_some_iff.mp h).1
  have nG : ¬ Λ.G (wput W i none) p := by
    rintro (z | z | ⟨j, z⟩)
    · exact (S.wx i p h0).2.1 z
    · exact h5 z
    · by_cases q : j = i
      · rw [wput_same q] at z; cases z
      · rw [wput_ne q] at z; exact q (S.wi j i p z h0)
  obtain ⟨S1, v1⟩ := S.mut (o := .frz ob (.dK kvs)) h0 (s := .un) trivial hi
  have hi1 : i < (env.set i Sl.un).length := by rw [List.length_set]; exact hi
  have S2 := S1.putD (i := i) (d := .non) (v := .non) hi1 rfl
  have vd : Same (Λ.vis W H) (Λ.vis (wput W i none) (upd H p (.frz ob (.dK kvs)))) := v1.trans vis_drop
  refine ⟨⟨by rw [List.length_set]; exact S.len, fun j x e => ?_, S1.fr, S1.mx, S1.zx, S2.wx, S2.wi, S2.dl, S2.wf⟩, vd⟩
  by_cases q : j = i
  · subst q
    rw [List.getElem?_set_self hi] at e
    cases e
    exact ⟨.ref p, h1, p, ob, kvs, rfl, hid_some.mpr ⟨nG, upd_same⟩, h3, h4.up vd⟩
  · rw [List.getElem?_set_ne (Ne.symm q)] at e
    have z := S2.sl j x (by rw [List.getElem?_set_ne (Ne.symm q), List.getElem?_set_ne (Ne.symm q)]; exact e)
    have eq : (σ.set i (some V.non))[j]? = σ[j]? := List.getElem?_set_ne (Ne.symm q)
    exact z.gen (List.length_set ..).symm eq.symm (Same.refl _) (fun _ _ _ h => h) fun _ _ _ _ _ h => h
end
abbrev DDc := List Sl → (List Key → List D → Prop) → (DX → Prop) → Prop
def SndDc (Λ : Lx) (w : WX) (te : TE) (t : DDc) : Prop := ∀ env W σ H (Q : VK) q x, StOk Λ env W σ H → XOk Λ w env W σ H x → t env q x →
  (∀ ks ds p kvs H', q ks ds → StOk Λ env W σ H' → Ev Λ W H H' → H p = none → H' p = some (.dK kvs) → kvs.map (·.1) = ks → RepL Λ.B (hid (fun a => a = p) (Λ.vis W H')) ds (kvs.map (·.2)) → Q (.ref p) H') → te σ H Q
structure XDc (X : Cx) (Λ : Lx) (w : WX) (e : Expr) (t : DDc) : Prop where
  ex : X.K = Λ.B.K → ∃ te, PE X e te ∧ SndDc Λ w te t
section
variable {X : Cx} {Λ : Lx} {w : WX} {a b c e o i : Expr} {es : List Expr} {ta tb tc t : DE} {tA tB : DT} {u : DDc} {pos p apos cpos : Pos} {st : Stmt} {ts : DS}
def dDc (u : DDc) : DE := fun env q x => u env (fun ks ds => q (.dic ks ds)) x
theorem XDc.xe (h : XDc X Λ w e u) : XE X Λ w e (dDc u) := ⟨fun hK => by
  obtain ⟨r, p, s⟩ := h.ex hK
  refine ⟨_, pe_lkA p, fun env W σ H Q q x S hx hh k => s env W σ H _ _ x S hx hh fun ks ds a kvs H' hq S' ev ha h' hk rl => ⟨a, _, h', trivial, fun ob => ?_⟩⟩
  have nG : ¬ Λ.G W a := S.fresh ha
  have s1 : Same (hid (fun b => b = a) (Λ.vis W H')) (Λ.vis W (upd H' a (.frz ob (.dK kvs)))) := fun b o hb => by
    obtain ⟨n, hb⟩ := hid_some.mp hb
    obtain ⟨g, hb⟩ := hid_some.mp hb
    exact hid_some.mpr ⟨g, by rw [upd_ne n]; exact hb⟩
  have s2 : Same (Λ.vis W H) (Λ.vis W (upd H' a (.frz ob (.dK kvs)))) := fun b o hb => s1 _ _ (hid_some.mpr ⟨ne_of_none (hid_some.mp hb).2 ha, ev.vis _ _ hb⟩)
  -- the state: a is new, whatever stands there
  obtain ⟨n0, hn0⟩ := S.wf
  have hnW : ∀ j, W j ≠ some a := fun j z => (S.wx j a z).1 ha
  have keep : ∀ b o, b ≠ a → H' b = some o → upd H' a (.frz ob (.dK kvs)) b = some o := fun b o n hb => by rw [upd_ne n]; exact hb
  have st : ∀ b, H' b ≠ none → upd H' a (.frz ob (.dK kvs)) b ≠ none := fun b hb => by
    by_cases q : b = a
    · rw [q, upd_same]; simp
    · rw [upd_ne q]; exact hb
  have own : ∀ j p' o, W j = some p' → H p' = some o → upd H' a (.frz ob (.dK kvs)) p' = some o := fun j p' o hj hp => keep _ _ (fun z => hnW j (z ▸ hj)) (ev.own j p' o hj hp)
  have ev2 : Ev Λ W H (upd H' a (.frz ob (.dK kvs))) := ⟨s2, own, fun b hb => st b (ev.all b hb)⟩
  have S2 : StOk Λ env W σ (upd H' a (.frz ob (.dK kvs))) := by
    refine ⟨S.len, fun j x hj => (S.sl j x hj).mono ev2.vis ev2.own, fun b o m h0 => keep b o (fun z => by rw [z, S.fresh0 ha] at h0; cases h0) (S'.fr b o m h0), fun b m => st b (S'.mx b m), fun b m => st b (S'.zx b m), fun j p' e' => ⟨st p' (S'.wx j p' e').1, (S'.wx j p' e').2⟩, S.wi, fun d l ed => ?_, S.wf⟩
    obtain ⟨D0, md, ml, nw⟩ := S'.dl d l ed
    refine ⟨D0.upd fun z => ?_, md, ml, nw⟩
    rcases List.mem_cons.mp z with q | z
    · rw [q] at nG; exact nG (.inr (.inl md))
    · rw [List.mem_singleton.mp z] at nG; exact nG (.inr (.inl ml))
  exact k _ _ _ hq S2 ev2 ⟨a, ob, kvs, rfl, hid_some.mpr ⟨nG, upd_same⟩, hk, rl.up s1⟩⟩
theorem merge_nodup : ∀ (more acc : List (Key × V)), ((acc ++ more).map (·.1)).Nodup → mergeK acc more = acc ++ more
  | [], acc, _ => by rw [List.append_nil]; rfl
  | kv :: more, acc, h => by
    have h1 : valV acc kv.1 = none := by
      cases q : valV acc kv.1 with
      | none => rfl
      | some z =>
        exfalso
        obtain ⟨p, hp, _⟩ := Option.map_eq_some_iff.mp q
        have e0 := List.find?_some hp
        have e : p.1 = kv.1 := of_decide_eq_true e0
        have m := List.mem_of_find?_eq_some hp
        rw [List.map_append, List.nodup_append] at h
        exact h.2.2 p.1 (List.mem_map.mpr ⟨p, m, rfl⟩) kv.1 (by simp) e
    show mergeK (putK acc kv.1 kv.2) more = _
    rw [putK_new kv.2 h1, merge_nodup more (acc ++ [(kv.1, kv.2)]) (by rw [List.append_assoc]; exact h), List.append_assoc]
    rfl
def dDisp (ks : List Str) (u : DA) : DDc := fun env q _ => u env (fun ds => ds.length = ks.length ∧ q (ks.map .inr) ds) (fun _ => False)
theorem xd_disp {dpos : Pos} {keys : List (Option Expr)} {values : List Expr} {ks : List Str} {v : DA} (h : XP X Λ dpos keys values ks v) (hall : keys.all (·.isSome) = true := by rfl) (hl : keys.length = values.length := by rfl)
    (h0 : keys ≠ [] := by simp) (h15 : keys.length ≤ 15 := by decide) (hk : ks.length ≤ 15 := by decide) (hn : ks.Nodup := by decide +kernel) : XDc X Λ w (.Dict keys values dpos) (dDisp ks v) := ⟨fun hK => by
  obtain ⟨trs, pp, sp⟩ := h.ex hK
  refine ⟨_, pe_disp pp hall hl h0 h15, fun env W σ H Q q x S hx hh kk p hp => ?_⟩
  obtain ⟨n0, hn0⟩ := S.wf
  let n := 2 * (n0 + env.length) + 1
  have hns : ¬ Sub n := by unfold Sub; omega
  have hnW0 : W n = none := hn0 n (by omega)
  have hE : env.length ≤ n := by omega
  have up1 : Same H (upd H p (.dK [])) := same_new hp
  obtain ⟨S2, v1, _⟩ := S.hide (S.grow up1) (.of up1) (i := n) (p := p) hp (by rw [upd_same]; simp) (.inl ⟨hE, hnW0⟩)
  have en : env.set n .un = env := List.set_eq_of_length_le hE
  rw [en] at S2
  have hnW : ∀ j, j ≠ n → W j = wput W n (some p) j := fun j hj => (wput_ne hj).symm
  have hW2 : wput W n (some p) n = some p := wput_same rfl
  have sub : ∀ j p', W j = some p' → wput W n (some p) j = some p' := fun j p' e => by
    by_cases z : j = n
    · rw [z, hnW0] at e; cases e
    · rw [wput_ne z]; exact e
  have onlyn : ∀ b, Λ.G (wput W n (some p)) b → b ≠ p → Λ.G W b := fun b g nb => by
    rcases g with z | z | ⟨j, z⟩
    · exact .inl z
    · exact .inr (.inl z)
    · by_cases y : j = n
      · rw [wput_same y] at z; cases z; exact absurd rfl nb
      · rw [wput_ne y] at z; exact .inr (.inr ⟨j, z⟩)
  generalize wput W n (some p) = W2 at *
  have nm : ¬ Λ.M p := fun z => S.mx _ z hp
  refine sp env W2 σ _ _ _ S2 hh fun ds vs H2 h2 S2' e2 r2 => ?_
  obtain ⟨hlen, h2⟩ := h2
  have hd2 := e2.own n p _ hW2 upd_same
  have lvs : vs.length = ks.length := by rw [r2.len, hlen]
  refine ⟨hd2, (ks.map (Sum.inr : Str → Key)).zip vs, ?_, by simp; omega, ?_⟩
  · rw [List.zip_map_left, List.zip_map_left, List.map_map]
    rfl
  have knd : (((ks.map (Sum.inr : Str → Key)).zip vs).map (·.1)).Nodup := by
    rw [← List.unzip_fst, List.unzip_zip (by rw [List.length_map, lvs])]
    exact List.Pairwise.map _ (fun a b hab z => hab (Sum.inr.inj z)) hn
  rw [merge_nodup _ [] (by rw [List.nil_append]; exact knd), List.nil_append]
  have S3 := S2'.mutV (o := .dK ((ks.map (Sum.inr : Str → Key)).zip vs)) hW2 hE hns nm
  have v3 : Same (Λ.vis W2 H2) (Λ.vis W2 (upd H2 p (.dK ((ks.map (Sum.inr : Str → Key)).zip vs)))) := hid_grow fun b u g hb2 => ⟨g, by rw [upd_ne (show b ≠ p from fun z => g (.inr (.inr ⟨n, by rw [z]; exact hW2⟩)))]; exact hb2⟩
  have S4 := S3.show_ hE hns hnW hnW0
  have gsub : ∀ b, Λ.G W b → Λ.G W2 b := fun b g => by
    rcases g with z | z | ⟨j, z⟩
    · exact .inl z
    · exact .inr (.inl z)
    · exact .inr (.inr ⟨j, sub j b z⟩)
  have v6 : ∀ G, Same (Λ.vis W2 G) (Λ.vis W G) := fun G => hid_anti gsub
  refine kk (ks.map .inr) ds p _ _ h2 S4 ⟨?_, ?_, ?_⟩ hp upd_same ?_ ?_
  · exact ((v1.trans e2.vis).trans v3).trans (v6 _)
  · intro j p' o hj ho
    have np : p' ≠ p := ne_of_none ho hp
    rw [upd_ne np]
    refine e2.own j p' o (sub j p' hj) ?_
    exact up1 _ _ ho
  · intro b hb
    have nb : b ≠ p := fun z => hb (z ▸ hp)
    rw [upd_ne nb]
    exact e2.all b (by rw [upd_ne nb]; exact hb)
  · rw [← List.unzip_fst, List.unzip_zip (by rw [List.length_map, lvs])]
  · rw [← List.unzip_snd, List.unzip_zip (by rw [List.length_map, lvs])]
    refine r2.up fun b o hb => ?_
    obtain ⟨g, hb⟩ := hid_some.mp hb
    have nb : b ≠ p := fun z => g (.inr (.inr ⟨n, by rw [z]; exact hW2⟩))
    exact hid_some.mpr ⟨nb, hid_some.mpr ⟨fun g' => g (gsub b g'), by rw [upd_ne nb]; exact hb⟩⟩⟩
def dSetOd (i : Nat) (u : DDc) : DS := fun env e => u env (fun ks ds => i < env.length ∧ e.nx (env.set i (.od ks ds))) (e.ex env)
theorem xs_setOd {i : Nat} {y : Str} (hN : X.N.Nodup) (hi : X.N[i]? = some y) (hx : Loc X.env.scope y) (he : XDc X Λ w a u) (hs : swapsWith a (some (.Name y p)) pos.line X.env = pure false := by rfl) (hf : X.fn y = true ∨ X.env.scope.names.lookup y = some .local := by first | exact .inl rfl | exact .inr rfl | assumption) :
    XS X Λ w (.Assign [.Name y p] a pos) (dSetOd i u) := ⟨fun hK => by
  obtain ⟨r, pp, s⟩ := he.ex hK
  refine ⟨_, ps_set hN hi hx pp hs hf, fun env W σ H E e S L h => s env W σ H _ _ _ S L.xok h fun ks ds p kvs H' q S' ev hp hq hk rp => ?_⟩
  obtain ⟨S2, s2⟩ := S.putOwnD S' ev hp hq hk rp q.1
  exact L.nx _ _ _ _ q.2 S2 s2⟩
def dDPut (i : Nat) (tk tv : DE) : DS := fun env e => match env[i]? with
  | some (.od ks ds) => tv env (fun d => tk env (fun kk => match keyD kk with
    | some key => ks.length < 100000 ∧ e.nx (env.set i (.od (putKs ks key) (putDs ks ds key d)))
    | none => False) (e.ex env)) (e.ex env)
  | _ => False
theorem xs_dput {n : Nat} {y : Str} {p1 pos' : Pos} (hu : X.A.units + 64 < cLine) (ho : PE X (.Name y p1) (tVar n)) (hi : XE X Λ w i ta) (hv : XE X Λ w a tb) (hs : swapsWith a (some (.Subscript (.Name y p1) i pos')) pos.line X.env = pure false := by rfl) :
    XS X Λ w (.Assign [.Subscript (.Name y p1) i pos'] a pos) (dDPut n ta tb) := ⟨fun hK => by
  obtain ⟨ri, pi, si⟩ := hi.ex hK
  obtain ⟨rv, pv, sv⟩ := hv.ex hK
  refine ⟨_, ps_dput (by omega) ho pi pv hs, fun env W σ H E e S L h => ?_⟩
  unfold dDPut at h
  split at h
  · rename_i ks ds hd
    refine sv env W σ H _ _ _ S L.xok h fun d v H1 h1 S1 e1 r1 => ?_
    obtain ⟨p, kvs, hw, hσ, hp, hk, rl, hm⟩ := own_atD S hd
    refine ⟨_, hσ, si env W σ H1 _ _ _ S1 (L.xok.on e1) h1 fun d2 v2 H2 h2 S2 e2 r2 => ?_⟩
    cases hkd : keyD d2 with
    | none => rw [hkd] at h2; exact h2.elim
    | some key =>
      rw [hkd] at h2
      obtain ⟨hz, h2⟩ := h2
      cases keyD_rep hkd r2
      subst hk
      have hp2 := e2.own _ _ _ hw (e1.own _ _ _ hw hp)
      have hz2 : kvs.length < sizeLine := by rw [List.length_map] at hz; rw [sizeLine_eq]; omega
      refine ⟨p, _, rfl, DPut.k hp2 hz2, ?_⟩
      obtain ⟨S3, s3⟩ := mut_ownD S2 hd hw hm hσ (put_names (kvs := kvs) (key := key) (y := v)) (RepL.put ((rl.up e1.vis).up e2.vis) (r1.up e2.vis))
      exact L.nx _ _ _ _ h2 S3 ((e1.vis.trans e2.vis).trans s3)
  · exact h.elim⟩
def dFrzD (i : Nat) (t : DS) : DS := fun env e => match env[i]? with
  | some (.od ks ds) => t (env.set i (.va (.dic ks ds))) e
  | _ => False
theorem xs_frzD (i : Nat) (h : XS X Λ w st ts) : XS X Λ w st (dFrzD i ts) := ⟨fun hK => by
  obtain ⟨r, p, s⟩ := h.ex hK
  refine ⟨_, ps_lk p, fun env W σ H E e S L hh => ?_⟩
  unfold dFrzD at hh
  split at hh
  · rename_i ks ds hd
    obtain ⟨p, kvs, hp, hf⟩ := S.freezeD hd
    refine ⟨p, _, hp, trivial, fun ob => ?_⟩
    obtain ⟨S2, s2⟩ := hf ob
    exact s _ _ σ _ E e S2 (L.on s2) hh
  · exact hh.elim⟩
end
def GDic (K : PySem.W.Frag) (w : World) (mg : Str → Option Value) (x : Str) (kvs : List (Str × D)) : Prop := ∃ a es n, mg x = some (.ref a) ∧ KDict K w a es n ∧ ∀ z : Str, ∃ r, PySem.W.nsIn K a z = some r ∧ (match kvs.lookup z with
  | some d => ∃ v u, r = some u ∧ d.flat = some v ∧ RelV v u
  | none => r = none)
theorem flat_rep {B : Tb} {H : Hp} {d : D} {v : V} (h : d.flat = some v) : Rep B H d v := by
  cases d <;> first | (cases h; done) | skip
  · cases h; exact rfl
  · cases h; exact rfl
  · cases h; exact rfl
  · cases h; exact rfl
section
variable {X : Cx} {Λ : Lx} {w : WX} {a b c e i : Expr} {ta tb tc t : DE} {pos p apos cpos : Pos} {y : Str} {kvs : List (Str × D)}
def dGIn (neg : Bool) (kvs : List (Str × D)) (t : DE) : DE := fun env q x => t env (fun d => match d with
  | .str z => q (.bl (if neg then !(kvs.lookup z).isSome else (kvs.lookup z).isSome))
  | _ => False) x
theorem g_in {a : Addr} {z : Str} {r : Option Value} (hr : match kvs.lookup z with | some d => ∃ v u, r = some u ∧ d.flat = some v ∧ RelV v u | none => r = none) : r.isSome = (kvs.lookup z).isSome := by
  split at hr
  · rename_i d hd
    obtain ⟨v, u, rfl, _⟩ := hr
    rw [hd]
    rfl
  · rename_i hd
    rw [hr, hd]
    rfl
theorem xe_gin {p1 : Pos} (hg : Gl X y) (G : GDic X.K X.w X.mg y kvs) (ha : XE X Λ w i ta) (hdb : (y == ("__debug__" : Str)) = false := by decide) (hmk : behindInMarks .In (.Name y p1) = false := by rfl) : XE X Λ w (.Compare i [.In] [.Name y p1] pos) (dGIn false kvs ta) := ⟨fun hK => by
  obtain ⟨ra, pa, sa⟩ := ha.ex hK
  obtain ⟨ad, es, n, hm, hd, hv⟩ := G
  refine ⟨_, pe_cmpR (op_in_kd hd) pa (pe_glob (v := .ref ad) hg hm rfl hdb) hmk, fun env W σ H Q q x S hx h k => sa env W σ H _ _ x S hx h fun d v H1 h1 S1 e1 r1 => ?_⟩
  cases d <;> first | exact h1.elim | skip
  rename_i z
  cases r1
  obtain ⟨r, hr, hv⟩ := hv z
  refine ⟨z, r, rfl, rfl, hr, ?_⟩
  have e := g_in (a := ad) hv
  rw [e]
  exact k _ _ H1 h1 S1 e1 rfl⟩
def dGIx (kvs : List (Str × D)) (t : DE) : DE := fun env q x => t env (fun d => match d with
  | .str z => match kvs.lookup z with
    | some d => q d
    | none => False
  | _ => False) x
theorem xe_gix {p1 : Pos} (hg : Gl X y) (G : GDic X.K X.w X.mg y kvs) (ha : XE X Λ w i ta) (hs : PlainIx i := by exact fun _ _ => rfl) (hdb : (y == ("__debug__" : Str)) = false := by decide) : XE X Λ w (.Subscript (.Name y p1) i pos) (dGIx kvs ta) := ⟨fun hK => by
  obtain ⟨ra, pa, sa⟩ := ha.ex hK
  obtain ⟨ad, es, n, hm, hd, hv⟩ := G
  refine ⟨_, pe_ix ix_kdict (pe_glob (v := .ref ad) hg hm rfl hdb) pa hs, fun env W σ H Q q x S hx h k => sa env W σ H _ _ x S hx h fun d v H1 h1 S1 e1 r1 => ?_⟩
  cases d <;> first | exact h1.elim | skip
  rename_i z
  cases r1
  obtain ⟨r, hr, hv⟩ := hv z
  dsimp only at h1
  cases hz : kvs.lookup z with
  | none => rw [hz] at h1; exact h1.elim
  | some dd =>
    rw [hz] at h1 hv
    obtain ⟨v, u, rfl, hf, rv⟩ := hv
    exact ⟨ad, z, v, rfl, rfl, ⟨es, n, u, hd.at_, hd.lit, hr, rv⟩, k _ _ H1 h1 S1 e1 (flat_rep hf)⟩⟩
def dGGet (kvs : List (Str × D)) (t tz : DE) : DE := fun env q x => t env (fun d => tz env (fun z => match d with
  | .str k => q ((kvs.lookup k).getD z)
  | _ => False) x) x
def tKGet2 (K : PySem.W.Frag) (w : World) (ad : Addr) (ty tx : TE) : TE := fun σ H Q => ty σ H fun y H2 => tx σ H2 fun z H3 => ∃ (k : Str) (r : Option Value), y = .str k ∧ PySem.W.nsIn K ad k = some r ∧ ((r = none ∧ Q z H3) ∨ ∃ u v, r = some u ∧ RelV v u ∧ Q v H3)
theorem pe_kget2 {o e f : Expr} {ty tx : TE} {ad : Addr} {es : Array DictEntry} {n : Nat} (D : KDict X.K X.w ad es n) (ho : PE X o (tC (.ref ad))) (he : PE X e ty) (hf : PE X f tx) (m : M2 X o "get" apos e f cpos) : PE X (.Call (.Attribute o "get" apos) [e, f] [] cpos) (tKGet2 X.K X.w ad ty tx) := by
  refine ⟨fun pins s σ H Q I h => ?_⟩
  refine wpAny_Call_method m.base m.few m.line PySem.F.plainAttrs_dict PySem.F.slot_dict_get PySem.F.type_dict_get (thn (ho.run pins s σ H (fun v H' => v = .ref ad ∧ H' = H) I ⟨rfl, rfl⟩) fun u s1 ⟨x, H1, I1, rx, ex, eh⟩ => ?_)
  subst ex eh
  obtain rfl : u = Value.ref ad := rx
  have M1 := PySem.W.mapOf_K (prog := X.prog) (w := X.w) I1.kIn D.at_ D.lit
  refine ⟨M1.typeIs, M1.noDict, ?_⟩
  rw [m.trees]
  refine Calls.callWith_builtin rfl (Calls.evalArgs_plain (Calls.spliced_cons (thn (he.run pins s1 σ H1 _ I1 h) fun iv s2 ⟨y, H2, I2, ry, q2⟩ => Calls.spliced_cons (thn (hf.run pins s2 σ H2 _ I2 q2) fun fv s3 ⟨z, H3, I3, rz, k, r, ey, hr, q3⟩ => Calls.spliced_nil ?_))))
  subst ey
  obtain ⟨t, rfl⟩ := ry
  have M3 := PySem.W.mapOf_K (prog := X.prog) (w := X.w) I3.kIn D.at_ D.lit
  refine call_meetsIn PySem.F.slot_dict_get M3.typeIs PySem.F.entry_dict_get (PySem.F.args_dict_get_3 _ _ _) (meets_dict_get_default (strKind X.prog X.w) ad (PySem.strKind_is X.prog X.w k t) D.low fv) ⟨_, M3, ?_⟩
  rw [PySem.W.find_K D.at_ hr]
  rcases q3 with ⟨rfl, q3⟩ | ⟨u, v, rfl, rv, q3⟩
  · exact ⟨z, H3, I3.tok _, rz, q3⟩
  · exact ⟨v, H3, I3.tok _, rv, q3⟩
theorem xe_gget2 {p1 : Pos} (hg : Gl X y) (G : GDic X.K X.w X.mg y kvs) (ha : XE X Λ w e ta) (hb : XE X Λ w c tb) (m : M2 X (.Name y p1) "get" apos e c cpos := by exact ⟨rfl, rfl, rfl, rfl⟩) (hdb : (y == ("__debug__" : Str)) = false := by decide) : XE X Λ w (.Call (.Attribute (.Name y p1) "get" apos) [e, c] [] cpos) (dGGet kvs ta tb) := ⟨fun hK => by
  obtain ⟨ra, pa, sa⟩ := ha.ex hK
  obtain ⟨rb, pb, sb⟩ := hb.ex hK
  obtain ⟨ad, es, n, hm, hd, hv⟩ := G
  refine ⟨_, pe_kget2 hd (pe_glob (v := .ref ad) hg hm rfl hdb) pa pb m, fun env W σ H Q q x S hx h k => sa env W σ H _ _ x S hx h fun d v H1 h1 S1 e1 r1 => sb env W σ H1 _ _ x S1 (hx.on e1) h1 fun d2 v2 H2 h2 S2 e2 r2 => ?_⟩
  cases d <;> first | exact h2.elim | skip
  rename_i z
  cases r1
  obtain ⟨r, hr, hv⟩ := hv z
  refine ⟨z, r, rfl, hr, ?_⟩
  dsimp only at h2
  cases hz : kvs.lookup z with
  | none =>
    rw [hz] at h2 hv
    exact .inl ⟨hv, k _ _ H2 h2 S2 (e1.trans e2) r2⟩
  | some dd =>
    rw [hz] at h2 hv
    obtain ⟨v, u, rfl, hf, rv⟩ := hv
    exact .inr ⟨u, v, rfl, rv, k _ _ H2 h2 S2 (e1.trans e2) (flat_rep hf)⟩⟩
end
end Eb

namespace Eb
open PySem PySem.Spec PyProof.Rows L2 StX
set_option maxRecDepth 8000 in
theorem ext_tup (l : Addr) (items : Array Value) (n : Nat) (b : Addr) (items2 : Array Value) (n2 : Nat) (dd : Option Addr) (sl : Array (Option Value)) (hs0 : ¬(!items.isEmpty && Builtin.List.listTooLong (items.size + items2.size)) = true) (hs1 : items.size ≤ sizeLine) (hs2 : items.size + items2.size ≤ sizeLine + 1) :
    Meets (Builtin.«list.extend» ⟨[.ref l, .ref b], []⟩) (fun _ R s => s.heap.get? l = some { cls := .type "list", dict := none, data := .seq items n, slots := #[] } ∧ s.heap.get? b = some { cls := .type "tuple", dict := dd, data := .seq items2 n2, slots := sl } ∧ R (.ok (.ret Value.none)) { s with heap := s.heap.update l (Obj.mapSeq fun x => x ++ items2), toks := s.toks }) :=
  .of_wp fun prog w A R s h => by
    obtain ⟨hp, g, d, tk, os⟩ := s; obtain ⟨hl, hb, h⟩ := h; have f1 := PySem.AutoSeq1.idx_int; have f2 := PySem.AutoSeq1.sub_tuple_tuple; have f3 := PySem.AutoSeq1.sub_list_list; have f4 := PySem.AutoSeq1.sub_tuple_list; have f5 := PySem.AutoSeq1.sub_list_tuple
    have hz' : (items ++ items2).size ≤ sizeLine + 1 := by rw [Array.size_append]; exact hs2
    wp_walk using (wpAny_updateSeq hl rfl (hz := hs1) (_hz' := hz')), wpAny_loadPart' hl, wpAny_loadPart' hb; exact ⟨_, rfl, h⟩
def rExtA (K : PySem.W.Frag) : V → List V → Hp → VK → Prop := fun x vs H Q => ∃ l b xs zs, x = .ref l ∧ vs = [.ref b] ∧ H l = some (.lst xs) ∧ (H b = some (.lst zs) ∨ SqT K H b zs) ∧ xs.length + zs.length ≤ sizeLine ∧ Q .non (upd H l (.lst (xs ++ zs)))
section
variable {X : Cx}
theorem mt_extA : MtM X "list.extend" (rExtA X.K) := by
  intro pins s σ H x vs v us Q I rx rv h
  obtain ⟨l, b, xs, zs, rfl, rfl, hH, hB, hz, q⟩ := h
  rcases hB with hB | hB
  · exact mt_extend pins s σ H (.ref l) [.ref b] v us Q I rx rv ⟨l, b, xs, zs, rfl, rfl, hH, hB, hz, q⟩
  cases rx
  obtain ⟨u, rfl, ru⟩ := rv.one
  cases ru
  obtain ⟨z, its, n, r, hl, e⟩ := I.lstM hH
  obtain ⟨its2, r2, ⟨o, e2, hc, n2, hd⟩, hz2⟩ := I.tuple hB
  obtain ⟨oc, od, dt, osl⟩ := o
  dsimp only at hc hd
  subst hc hd
  have hl2 := r2.length
  have hsz : its.toArray.size + its2.toArray.size ≤ sizeLine := by rw [List.size_toArray, List.size_toArray]; omega
  have hlong : ¬ (!its.toArray.isEmpty && Builtin.List.listTooLong (its.toArray.size + its2.toArray.size)) = true := by
    rw [notLongL hsz, Bool.and_false]
    exact Bool.false_ne_true
  refine call_meets F.slot_list_extend ⟨_, e, rfl⟩ F.entry_list_extend (F.args_list_extend_2 _ _)
    (ext_tup l its.toArray n b its2.toArray n2 od osl hlong (by rw [List.size_toArray]; omega) (by omega)) ⟨e, e2, ?_⟩
  refine ⟨.non, _, I.lset (its' := its ++ its2) hH e (by simp) (r.append r2) ?_, rfl, q⟩
  rw [List.length_append]
  omega
end
section
variable {X : Cx} {Λ : Lx} {w : WX} {a b c e o : Expr} {es : List Expr} {ta tb tc t : DE} {u : DA} {pos p apos : Pos} {st : Stmt}
def itsD : D → Option (List D)
  | .lst xs => some xs
  | .tup xs => some xs
  | _ => none
def dExt (i : Nat) (t : DE) : DS := fun env e => match env[i]? with
  | some (.ow ds) => t env (fun d => ∃ xs, itsD d = some xs ∧ ds.length + xs.length ≤ 100000 ∧ e.nx (env.set i (.ow (ds ++ xs)))) (e.ex env)
  | _ => False
theorem xs_ext {i : Nat} {y : Str} {p1 p2 p3 : Pos} (ho : PE X (.Name y p1) (tVar i)) (he : XE X Λ w a t)
    (hbase : attributeBase (.Name y p1) "extend" X.env (eval (.Name y p1) X.env) = eval (.Name y p1) X.env := by rfl)
    (hfew : ((backTo p3 (starEach [a] X.env)).all (fun x => !x.1) && (backToKw p3 (keywordEach [] X.env)).all (fun x => x.1.isSome)
      && decide ([a].length + ([] : List Keyword).length + (if ([] : List Keyword).isEmpty then 0 else 1) < 30)) = true := by rfl)
    (hline : (p2.endLine == p3.line) = true := by rfl) (hs1 : starEach [a] X.env = (false, eval a X.env) :: starEach [] X.env := by rfl) (hplain : (backTo p3 (starEach [] X.env)).any (·.1) = false := by rfl)
    (hs : swapsWith (.Call (.Attribute (.Name y p1) "extend" p2) [a] [] p3) none pos.line X.env = pure false := by rfl) :
    XS X Λ w (.Expr (.Call (.Attribute (.Name y p1) "extend" p2) [a] [] p3) pos) (dExt i t) := ⟨fun hK => by
  obtain ⟨r, p, s⟩ := he.ex hK
  refine ⟨_, ps_expr (pe_bm PySem.F.plainAttrs_list PySem.F.slot_list_extend PySem.F.type_list_extend mt_extA ho (pa_cons p pa_nil hs1) hbase hfew hline hs1 hplain) hs, fun env W σ H E e S L h => ?_⟩
  unfold dExt at h
  split at h
  · rename_i ds hd
    obtain ⟨l, vs, hw, hσ, hl, rl, hm⟩ := own_at S hd
    refine ⟨_, hσ, .inl ⟨rfl, _, sqL_of hl⟩, s env W σ H _ _ _ S L.xok h fun d v H' q S' ev rp => ?_⟩
    have hl' := ev.own i l _ hw hl
    obtain ⟨xs, hx, hz, q⟩ := q
    have key : ∃ b zs, v = .ref b ∧ (H' b = some (.lst zs) ∨ SqT X.K H' b zs) ∧ RepL Λ.B (Λ.vis W H') xs zs := by
      cases d <;> first | (cases hx; done) | skip
      · cases hx
        obtain ⟨b, zs, rfl, h1, h2⟩ := rep_lst rp
        exact ⟨b, zs, rfl, .inl h1, h2⟩
      · cases hx
        obtain ⟨b, zs, rfl, h1, h2⟩ := rep_tup rp
        exact ⟨b, zs, rfl, .inr (hK ▸ h1), h2⟩
    obtain ⟨b, zs, rfl, hb, rz⟩ := key
    refine ⟨l, b, vs, zs, rfl, rfl, hl', hb, by rw [rl.len, rz.len]; exact sz hz, ?_⟩
    obtain ⟨S2, s2⟩ := mut_own S' hd hw (by rw [hl']; simp) hm hσ ((rl.up ev.vis).app rz)
    exact L.nx _ _ _ _ q S2 (ev.vis.trans s2)
  · exact h.elim⟩
def rInS (neg : Bool) : R2 := fun x y H Q => ∃ (c : Nat) (z : Str), x = .str ⟨#[c]⟩ ∧ y = .str z ∧ Q (.bl (if neg then !decide (c ∈ z.cps.toList) else decide (c ∈ z.cps.toList))) H
theorem op_inSg : OpR X (compareOp .In) (rInS false) := op_in_sign
def inSD (neg : Bool) : D → D → DK := fun d e q _ => match d, e with
  | .str x, .str z => ∃ c : Nat, x = ⟨#[c]⟩ ∧ q (.bl (if neg then !decide (c ∈ z.cps.toList) else decide (c ∈ z.cps.toList)))
  | _, _ => False
theorem snd_inSg {neg : Bool} : SndR Λ w (rInS neg) (inSD neg) := fun env W σ H d e v u Q q x S hx r1 r2 h k => by
  cases d <;> cases e <;> first | exact h.elim | skip
  cases r1
  cases r2
  obtain ⟨c, rfl, h⟩ := h
  exact ⟨c, _, rfl, rfl, k _ _ H h S .refl rfl⟩
def isBTs (ns : List BT) (d : D) : Bool := ns.any fun n => isBT n d
def isTsD (ns : List BT) (cs : List Nat) (d : D) (q : D → Prop) : Prop := match d with
  | .obj c _ => c ∈ cs ∧ q (.bl false)
  | .ty _ => False
  | .cl _ => False
  | .dic _ _ => False
  | d => q (.bl (isBTs ns d))
def dIsTs (ns : List BT) (cs : List Nat) (t : DE) : DE := fun env q x => t env (fun d => isTsD ns cs d q) x
theorem kitAny_ty {K : PySem.W.Frag} {d : D} {m : String} (h : d.bn = some m) : ∀ ns : List BT, PySem.W.kitAny K (.type m) (ns.map fun n => Value.type n.nm) = some (isBTs ns d)
  | [] => rfl
  | n :: ns => by
    have h1 : PySem.W.kitOne K (.type m) (.type n.nm) = some (isBT n d) := kit_ty (isBT_ok h)
    have h2 := kitAny_ty (K := K) h ns
    rw [List.map_cons]
    unfold PySem.W.kitAny
    rw [h1]
    cases e : isBT n d with
    | true => simp [isBTs, e]
    | false =>
      dsimp only
      rw [h2]
      simp [isBTs, e]
theorem kitAny_no {K : PySem.W.Frag} {t : Value} : ∀ ns : List BT, (∀ n ∈ ns, PySem.W.kitOne K t (.type n.nm) = some false) → PySem.W.kitAny K t (ns.map fun n => Value.type n.nm) = some false
  | [], _ => rfl
  | n :: ns, h => by
    rw [List.map_cons]
    unfold PySem.W.kitAny
    rw [h n (by simp)]
    exact kitAny_no ns fun m hm => h m (by simp [hm])
theorem isTs_ok {B : Tb} {H : Hp} {ns : List BT} {cs : List Nat} {d : D} {v : V} {q : D → Prop} (hc : ∀ n ∈ ns, ∀ c ∈ cs, InsOk B c ∧ PySem.W.kitOne B.K (.ref (B.C c)) (.type n.nm) = some false) (hn : ns ≠ []) (r : Rep B H d v) (h : isTsD ns cs d q) : ∃ t b, TyX B.K H v t ∧ PySem.W.kitAny B.K t (ns.map fun n => Value.type n.nm) = some b ∧ q (.bl b) := by
  cases d <;> first | exact h.elim | skip
  · exact ⟨_, _, rep_tyX r rfl, kitAny_ty rfl ns, h⟩
  · exact ⟨_, _, rep_tyX r rfl, kitAny_ty rfl ns, h⟩
  · exact ⟨_, _, rep_tyX r rfl, kitAny_ty rfl ns, h⟩
  · exact ⟨_, _, rep_tyX r rfl, kitAny_ty rfl ns, h⟩
  · exact ⟨_, _, rep_tyX r rfl, kitAny_ty rfl ns, h⟩
  · exact ⟨_, _, rep_tyX r rfl, kitAny_ty rfl ns, h⟩
  · obtain ⟨n, ns', e⟩ := List.exists_cons_of_ne_nil hn
    have c1 := (hc n (by simp [e]) _ h.1).1
    exact ⟨_, _, rep_tyO c1 r, kitAny_no ns fun n hn => (hc n hn _ h.1).2, h.2⟩
theorem clsV_all : ∀ ns : List BT, Paired ClsV (ns.map fun n => V.ty n.nm) (ns.map fun n => Value.type n.nm)
  | [] => .nil
  | n :: ns => .cons (.ty n.nm) (clsV_all ns)
theorem xe_isTs {n1 n2 : BT} {cs : List Nat} {y1 y2 : Str} {p1 p2 tpos : Pos} {kk : Nat} (hc : ∀ n ∈ [n1, n2], ∀ c ∈ cs, InsOk Λ.B c ∧ PySem.W.kitOne Λ.B.K (.ref (Λ.B.C c)) (.type n.nm) = some false) (hg : Gl X "isinstance") (hm : X.mg "isinstance" = none) (ha : XE X Λ w a t) (hT1 : PE X (.Name y1 p1) (tC (.ty n1.nm))) (hT2 : PE X (.Name y2 p2) (tC (.ty n2.nm)))
    (he : starEach [a, .Tuple [.Name y1 p1, .Name y2 p2] kk tpos] X.env = (false, eval a X.env) :: starEach [.Tuple [.Name y1 p1, .Name y2 p2] kk tpos] X.env := by rfl)
    (he2 : starEach [.Tuple [.Name y1 p1, .Name y2 p2] kk tpos] X.env = (false, eval (.Tuple [.Name y1 p1, .Name y2 p2] kk tpos) X.env) :: starEach [] X.env := by rfl) (hpl : (backTo pos (starEach [.Tuple [.Name y1 p1, .Name y2 p2] kk tpos] X.env)).any (·.1) = false := by rfl)
    (t1 : starEach [.Name y1 p1, .Name y2 p2] X.env = (false, eval (.Name y1 p1) X.env) :: starEach [.Name y2 p2] X.env := by rfl) (t2 : starEach [.Name y2 p2] X.env = (false, eval (.Name y2 p2) X.env) :: starEach [] X.env := by rfl) :
    XE X Λ w (.Call (.Name "isinstance" p) [a, .Tuple [.Name y1 p1, .Name y2 p2] kk tpos] [] pos) (dIsTs [n1, n2] cs t) := ⟨fun hK => by
  obtain ⟨r, p, s⟩ := ha.ex hK
  refine ⟨_, pe_callB call_isiT hg hm bb_isinstance (pa_cons p (pa_cons (pe_tup (pa_cons hT1 (pa_cons hT2 pa_nil t2) t1)) pa_nil he2) he) (by decide) (by decide) he hpl, fun env W σ H Q q x S hx h k => s env W σ H _ _ x S hx h fun d v H1 h1 S1 e1 r1 => ?_⟩
  rw [hK]
  refine ⟨Nat.le_trans (by decide : 2 ≤ 100000) (sz (Nat.le_refl _)), fun tp htp => ?_⟩
  have s2 := same_new (o := .tup [V.ty n1.nm, V.ty n2.nm]) htp
  obtain ⟨t', b, h2, h3, h4⟩ := isTs_ok (ns := [n1, n2]) hc (by simp) ((r1.up hid_le).up s2) h1
  exact ⟨v, tp, _, t', _, b, rfl, upd_same, clsV_all [n1, n2], h2, h3, k _ _ _ h4 (S1.grow s2) (e1.trans (.of s2)) rfl⟩⟩
def sortedSD : List D → (List D → Prop) → (DX → Prop) → Prop := fun ds q _ => match ds with
  | [d] => ∃ ns : List Str, d = .lst (ns.map .str) ∧ ns.length < 64 ∧ ∀ ks : List Str, ks.Perm ns → PyProof.Rows.sortedS ks = true → q (ks.map .str)
  | _ => False
theorem snd_sortedS : SndCL Λ w (rSortedS Λ.B.K) sortedSD := fun env W σ H ds vs Q q x S hx r h k => by
  unfold sortedSD at h
  split at h
  · obtain ⟨ns, rfl, h64, h⟩ := h
    obtain ⟨v, rfl, r1⟩ := r.one_inv
    obtain ⟨l, vs, rfl, h4, r4⟩ := rep_lst r1
    cases r4.strs
    exact ⟨l, ns, rfl, sqL_of h4, h64, fun ks p h1 h2 hp => finL S (RepL.of_strs) (h ks h1 h2) k p hp⟩
  · exact h.elim
theorem hc_sortedS : X.K = Λ.B.K → CallR X (.builtin "sorted") (rSortedS Λ.B.K) := fun hK => hK ▸ cr_sortedS
theorem xe_makeR {cc k : Nat} {f : Addr} {wp : DWI} {y : Str} (M : Mk X.K (Λ.B.C cc) f) (F : FnR X.prog X.w X.K X.mg X.base CX0 k f (spI0 Λ.B cc wp)) (hr : Room (k + 1) X.A) (hg : Gl X y) (hm : X.mg y = some (.ref (Λ.B.C cc))) (ha : XA X Λ w (e :: es) u) (hdb : (y == ("__debug__" : Str)) = false := by decide)
    (he : starEach (e :: es) X.env = (false, eval e X.env) :: starEach es X.env := by rfl) (hpl : (backTo pos (starEach es X.env)).any (·.1) = false := by rfl) : XE X Λ w (.Call (.Name y p) (e :: es) [] pos) (dMk cc wp u) := ⟨fun hK => by
  obtain ⟨r, p, s⟩ := ha.ex hK
  refine ⟨_, pe_makeR M F hr hg hm pass0 p hdb he hpl, fun env W σ H Q q x S hx h k => s env W σ H _ _ x S hx h fun ds vs H1 h1 S1 e1 r1 x dx h2 h3 h4 => ?_⟩
  exact make_i S1 r1 h1 (fun d v H' a b c => k d v H' a b (e1.trans c)) h2 h3 h4⟩
theorem xe_makeR0 {cc k : Nat} {f : Addr} {wp : DWI} {y : Str} (M : Mk X.K (Λ.B.C cc) f) (F : FnR X.prog X.w X.K X.mg X.base CX0 k f (spI0 Λ.B cc wp)) (hr : Room (k + 1) X.A) (hg : Gl X y) (hm : X.mg y = some (.ref (Λ.B.C cc))) (hdb : (y == ("__debug__" : Str)) = false := by decide) : XE X Λ w (.Call (.Name y p) [] [] pos) (dMk cc wp dNil) := ⟨fun hK => by
  refine ⟨_, pe_makeRS0 (E := fun _ => E0) M F hr hg hm (fun σ => fun _ _ _ _ _ _ z => z.elim) hdb, fun env W σ H Q q x S hx h k x dx h2 h3 h4 => ?_⟩
  exact make_i (ds := []) (vs := []) S RepL.nil h k h2 h3 h4⟩
end
section
variable {X : Cx} {CX : CXT} {n : Nat} {g : Addr} {sp : Sp} {E : XK} {Cs : List Addr}
def rStrM (Cs : List Addr) (sp : Sp) (E : XK) : List V → Hp → VK → Prop := fun xs H Q => ∃ C ∈ Cs, rStrOwn C sp E xs H Q
theorem call_strM (hs : ∀ C ∈ Cs, PySem.W.findIn X.K (.ref C) "__str__" = some (some (.ref g))) (hf : PySem.W.isFn X.K (.ref g) = true) (F : FnR X.prog X.w X.K X.mg X.base CX n g sp) (hr : Room (n + 2) X.A) (hu : X.A.units + 64 < cLine) (hx : Passes CX X E) : CallR X (.type "str") (rStrM Cs sp E) := by
  intro pins s σ H xs us Q I r ⟨C, hC, h⟩
  exact call_strOwn (hs C hC) hf F hr hu hx pins s σ H xs us Q I r h
def tFmtO (Cs : List Addr) (sp : Sp) (E : XK) (te : TE) : TE := fun σ H Q => te σ H fun x H1 => ∃ C ∈ Cs, ∃ a, x = .ref a ∧ InsO H1 a C ∧ sp [.ref a] H1 (fun z H' => ∃ i, z = .str i ∧ Q z H') E
theorem pe_fmtO {e : Expr} {te : TE} {pos : Pos} (hs : ∀ C ∈ Cs, PySem.W.findIn X.K (.ref C) "__str__" = some (some (.ref g))) (hfm : ∀ C ∈ Cs, PySem.W.findIn X.K (.ref C) "__format__" = some (some (.builtin "object.__format__"))) (hm : ∀ C ∈ Cs, PySem.W.mroIn X.K C (.type "object") = some true) (hf : PySem.W.isFn X.K (.ref g) = true) (F : FnR X.prog X.w X.K X.mg X.base CX n g sp) (hr : Room (n + 1) X.A)
    (hx : Passes CX X E) (he : PE X e te) : PE X (.FormattedValue e (-1) none pos) (tFmtO Cs sp E te) := by
  refine ⟨fun pins s σ H Q I h => ?_⟩
  refine wpAny_FormattedValue_plain (thn (he.run pins s σ H _ I h) fun v s1 ⟨x, H1, I1, r1, C, hC, a, ex, hi, q⟩ => ?_)
  subst ex
  cases (show v = Value.ref a from r1)
  obtain ⟨ox, od, J⟩ := insO_at I1 hi
  have hu := hr.units
  have hu1 : X.A.in1.units < cLine := by
    have : X.A.in1.units ≤ X.A.units + 1 := by simp [Around.in1]
    omega
  have I2 : Inv X pins σ H1 { s1 with toks := s1.toks + 1 } := I1.tok _
  obtain ⟨ox2, od2, J2⟩ := insO_at I2 hi
  refine PySem.W.kfo_fieldS hu1 I1.kIn J (hfm C hC) (hm C hC) (hs C hC) hf ?_
  refine wpAny_mono (wpAny_call (SlX.run_at (us := [.ref a]) (ws := [.ref a]) F hr.in1 I2.env0.in1 hx I2 (.cons rfl .nil) q)) (fun w s' z => ?_) fun _ _ x => x
  obtain ⟨z', H', I', rz, i, ei, qz⟩ := z
  subst ei
  obtain ⟨t, e⟩ := (show ∃ t, w = Value.str i t from rz)
  cases e
  exact ⟨.str i, H', I', ⟨t, rfl⟩, qz⟩
end
section
variable {X : Cx} {Λ : Lx} {w : WX} {a b c e o : Expr} {ta tb tc t : DE} {pos p apos : Pos} {wp : DW} {cs : List Nat} {E : XK}
@[irreducible] def strMD (cs : List Nat) (wp : DW) : List D → DK := fun ds q _ => match ds with
  | [.obj c fs] => c ∈ cs ∧ wp [.obj c fs] (fun z => match z with
    | .str i => q (.str i)
    | _ => False) (fun _ => False)
  | _ => False
theorem snd_strM : SndC Λ w (rStrM (cs.map Λ.B.C) (spF0 Λ.B wp) E) (strMD cs wp) := fun env W σ H ds vs Q q x S hx r h k => by
  unfold strMD at h
  split at h
  · rename_i c fs
    obtain ⟨hc, h⟩ := h
    refine ⟨Λ.B.C c, List.mem_map.mpr ⟨c, hc, rfl⟩, ?_⟩
    exact snd_strO (cc := c) env W σ H _ vs Q q x S hx r ⟨rfl, h⟩ k
  · exact h.elim
def fmtMD (cs : List Nat) (wp : DW) (d : D) (q : D → Prop) : Prop := match d with
  | .obj c fs => c ∈ cs ∧ wp [.obj c fs] (fun z => match z with
    | .str i => q (.str i)
    | _ => False) (fun _ => False)
  | _ => False
def dFmtM (cs : List Nat) (wp : DW) (t : DE) : DE := fun env q x => t env (fun d => fmtMD cs wp d q) x
structure StrOk (B : Tb) (cs : List Nat) (g : Addr) : Prop where
  at_ : ∀ c ∈ cs, PySem.W.findIn B.K (.ref (B.C c)) "__str__" = some (some (.ref g))
  fm : ∀ c ∈ cs, PySem.W.findIn B.K (.ref (B.C c)) "__format__" = some (some (.builtin "object.__format__")) ∧ PySem.W.mroIn B.K (B.C c) (.type "object") = some true
theorem of_map {B : Tb} {P : Addr → Prop} (h : ∀ c ∈ cs, P (B.C c)) : ∀ C ∈ cs.map B.C, P C := fun C hC => by
  obtain ⟨c, h1, rfl⟩ := List.mem_map.mp hC
  exact h c h1
theorem hc_strM {CX : CXT} {n : Nat} {g : Addr} (o : StrOk Λ.B cs g) (hf : PySem.W.isFn X.K (.ref g) = true) (F : FnR X.prog X.w X.K X.mg X.base CX n g (spF0 Λ.B wp)) (hr : Room (n + 2) X.A) (hu : X.A.units + 64 < cLine) (hx : Passes CX X E) : X.K = Λ.B.K → CallR X (.type "str") (rStrM (cs.map Λ.B.C) (spF0 Λ.B wp) E) := fun hK =>
  call_strM (of_map (P := fun C => PySem.W.findIn X.K (.ref C) "__str__" = some (some (.ref g))) fun c hc => hK ▸ o.at_ c hc) hf F hr hu hx
theorem xe_fmtM {n : Nat} {g : Addr} (O : StrOk Λ.B cs g) (hf : PySem.W.isFn X.K (.ref g) = true) (F : FnR X.prog X.w X.K X.mg X.base CX0 n g (spF0 Λ.B wp)) (hr : Room (n + 1) X.A) (he : XE X Λ w a t) : XE X Λ w (.FormattedValue a (-1) none pos) (dFmtM cs wp t) := ⟨fun hK => by
  obtain ⟨r, p, s⟩ := he.ex hK
  refine ⟨_, pe_fmtO (E := E0) (Cs := cs.map Λ.B.C) (of_map (P := fun C => PySem.W.findIn X.K (.ref C) "__str__" = some (some (.ref g))) fun c hc => hK ▸ O.at_ c hc) (of_map (P := fun C => PySem.W.findIn X.K (.ref C) "__format__" = some (some (.builtin "object.__format__"))) fun c hc => hK ▸ (O.fm c hc).1)
    (of_map (P := fun C => PySem.W.mroIn X.K C (.type "object") = some true) fun c hc => hK ▸ (O.fm c hc).2) hf F hr pass0 p, fun env W σ H Q q x S hx h k => s env W σ H _ _ x S hx h fun d v H1 h1 S1 e1 r1 => ?_⟩
  unfold fmtMD at h1
  split at h1
  · rename_i c fs
    obtain ⟨hc, h1⟩ := h1
    obtain ⟨a, rfl, hi⟩ := rep_ins r1
    refine ⟨Λ.B.C c, List.mem_map.mpr ⟨c, hc, rfl⟩, a, rfl, hi, call0 S1 (RepL.one r1) h1 fun d v H' hq S' e' r' => ?_⟩
    cases d <;> first | exact hq.elim | skip
    cases r'
    exact ⟨_, rfl, k _ _ H' hq S' (e1.trans e') rfl⟩
  · exact h1.elim⟩
def rEM (K : PySem.W.Frag) (Cs : List Addr) (sp : Sp) (E : XK) : R2 := fun x y H Q => ∃ C ∈ Cs, rEA K C sp E x y H Q
def eqMD (cs ca : List Nat) (wp : DW) : D → D → DK := fun d e q x => match d with
  | .obj c fs => c ∈ cs ∧ eqAD c ca wp (.obj c fs) e q x
  | _ => False
theorem snd_eqM {ca : List Nat} (o : ∀ c ∈ cs, EqaOk Λ.B c ca) : SndR Λ w (rEM Λ.B.K (cs.map Λ.B.C) (spF0 Λ.B wp) E) (eqMD cs ca wp) := fun env W σ H d e v u Q q x S hx r1 r2 h k => by
  cases d <;> first | exact h.elim | skip
  rename_i c fs
  exact ⟨Λ.B.C c, List.mem_map.mpr ⟨c, h.1, rfl⟩, snd_eqA (o c h.1) env W σ H _ e v u Q q x S hx r1 r2 h.2 k⟩
theorem ho_eqM {CX : CXT} {n : Nat} {g : Addr} {sp : Sp} (hs : ∀ c ∈ cs, PySem.W.findIn Λ.B.K (.ref (Λ.B.C c)) "__eq__" = some (some (.ref g))) (hf : PySem.W.isFn X.K (.ref g) = true) (F : FnR X.prog X.w X.K X.mg X.base CX n g sp) (hr : Room n X.A) (hx : Passes CX X E) :
    X.K = Λ.B.K → OpR X (compareOp .Eq) (rEM Λ.B.K (cs.map Λ.B.C) sp E) := fun hK pins s σ H x y v u Q I rx ry ⟨C, hC, h⟩ => by
  obtain ⟨c, hc, rfl⟩ := List.mem_map.mp hC
  exact ho_eqA (hK ▸ hs c hc) hf F hr hx hK pins s σ H x y v u Q I rx ry h
end
end Eb

namespace Eb
namespace HK
open PySem PySem.Spec PyProof.Rows L2
theorem fil_ok {P : Program} {K : Fg} {cda : Addr} (h : filB P K cda = true) : ∃ ccl cdd vs ccs file tf, K.lookup cda = some ⟨ccl, cdd, .fields vs, ccs⟩ ∧ (vs[2]? : Option Value) = some (.str file tf) ∧ ((P.main.file : Str) == file) = true := by
  unfold filB at h
  split at h
  · rename_i ccl cdd vs ccs e1
    unfold fileB at h
    split at h
    · rename_i file tf e2
      exact ⟨ccl, cdd, vs, ccs, file, tf, e1, e2, h⟩
    · cases h
  · cases h
theorem cel_ok {K : Fg} {cc C : Addr} (h : celB K cc C = true) : ∃ cl cld csl, K.lookup cc = some ⟨cl, cld, .cell (some (.ref C)), csl⟩ := by
  unfold celB at h
  split at h
  · rename_i cl cld D csl e3
    have eD : D = C := of_decide_eq_true h
    subst eD
    exact ⟨cl, cld, csl, e3⟩
  · cases h
theorem dfn_ok {K : Fg} {dV : Value} {n : Nat} (h : dfnB K dV n = true) : DfN K dV n := by
  unfold dfnB at h
  split at h
  · exact .inl ⟨rfl, rfl⟩
  · split at h
    · rename_i e
      exact .inr ⟨Nat.succ_ne_zero _, _, _, _, _, rfl, e, rfl, of_decide_eq_true h⟩
    · cases h
  · cases h
theorem fn_getd {K : Fg} {d : Dq} {clo : List (Str × Addr)} {cda : Addr} {nd : Nat} (e : fnW K d.ad = d.val) (c : fnBd K d.ad d.qual clo cda nd = true) :
    ∃ oc od osl dV kV doc pm an ct, K.lookup d.ad = some ⟨oc, od, .func (fnC d.name d.qual d.st clo dV kV doc pm an (.ref cda) ct), osl⟩ ∧ PySem.W.codeIn K (.ref cda) d.qual = true ∧ DfN K dV nd := by
  unfold fnBd at c
  unfold fnW at e
  cases q : K.lookup d.ad with
  | none => rw [q] at c; cases c
  | some o =>
    obtain ⟨oc, od, dt, osl⟩ := o
    rw [q] at c e
    cases dt with
    | func fd =>
      obtain ⟨n1, n2, n3, n4, n5, n6, n7, n8, n9, n10, n11, n12, n13, n14, n15⟩ := fd
      have e2 : (some (n1, n2, n3, n4, n5, n6, n15) : FnW) = some (d.name, d.qual, defArgs d.st, .stmts (defBody d.st), defScope d.st, mainGlobals, builtinsNs) := e
      simp only [Option.some.injEq, Prod.mk.injEq] at e2
      obtain ⟨h1, h2, h3, h4, h5, h6, h7⟩ := e2
      simp only [Bool.and_eq_true, decide_eq_true_eq] at c
      obtain ⟨c1, c2, c3, c4⟩ := c
      subst h1 h2 h3 h4 h5 h6 h7 c1 c2
      exact ⟨oc, od, osl, n8, n9, n10, n11, n12, n14, rfl, c3, dfn_ok c4⟩
    | _ => cases c
theorem sup_f {P : Program} {K : Fg} {mg : Str → Option Value} {d : Dq} {C f2 cda cc : Addr} {nd : Nat} (nsu : mg "super" = none) (e : fnW K d.ad = d.val) (c0 : fnBd K d.ad d.qual [("__class__", cc)] cda nd = true) (c : supOB P K C f2 cda cc = true) : SupF P K mg d.name d.qual d.st d.ad C f2 nd := by
  obtain ⟨a1, c⟩ := ba c
  obtain ⟨a2, c⟩ := ba c
  obtain ⟨a3, c⟩ := ba c
  obtain ⟨a4, c⟩ := ba c
  obtain ⟨a5, c⟩ := ba c
  obtain ⟨a6, c⟩ := ba c
  obtain ⟨a7, c⟩ := ba c
  obtain ⟨a8, a9⟩ := ba c
  obtain ⟨oc, od, osl, dV, kV, doc, pm, an, ct, h1, h2, h3⟩ := fn_getd e c0
  exact ⟨oc, od, osl, dV, kV, doc, pm, an, ct, cda, cc, h1, h2, h3, ⟨nsu, of_decide_eq_true a7, fil_ok a8, cel_ok a9, Option.isSome_iff_exists.mp a1, of_decide_eq_true a2, eqO_ok a3, eqO_ok a4, of_decide_eq_true a5, a6⟩⟩
theorem gdL_ok : ∀ {es : List DictEntry} {kvs : List (Str × V)}, gdL es kvs = true → es.any (·.refKey) = false ∧ ∀ z : Str, match kvs.lookup z with
    | some v => ∃ e, es.find? (·.key.isStr z) = some e ∧ RelV v e.val
    | none => es.find? (·.key.isStr z) = none
  | [], [], _ => ⟨rfl, fun z => rfl⟩
  | [], _ :: _, h => by cases h
  | _ :: _, [], h => by cases h
  | e :: r, (k, v) :: q, h => by
    unfold gdL at h
    obtain ⟨h1, h⟩ := ba h
    obtain ⟨h2, h3⟩ := ba h
    obtain ⟨i1, i2⟩ := gdL_ok h3
    split at h1
    · rename_i x t ek
      have ex : x = k := of_decide_eq_true h1
      subst ex
      refine ⟨?_, fun z => ?_⟩
      · rw [List.any_cons, i1]
        simp [DictEntry.refKey, ek]
      · rw [List.lookup_cons, List.find?_cons]
        have i2z := i2 z
        cases q1 : (z == x) with
        | true =>
          have : e.key.isStr z = true := by
            rw [ek, beq_iff_eq.mp q1]
            simp [Value.isStr]
          rw [this]
          exact ⟨e, rfl, He.relB_ok h2⟩
        | false =>
          have : e.key.isStr z = false := by
            rw [ek]
            simp only [Value.isStr]
            cases w : (x == z) with
            | false => rfl
            | true =>
              rw [beq_iff_eq.mp w] at q1
              simp at q1
          rw [this]
          exact i2z
    · cases h1
theorem gdic_ok {K : Fg} {h : Heap} {w : World} {mg : Str → Option Value} {x : Str} {a : Addr} {kvs : List (Str × D)} {kv : List (Str × V)} (X : K.In h) (G : h.Ns mainGlobals mg) (g : gloB K x a = true) (t : ∃ es n, KDict K w a es n) (c : gdB K a kv = true) (e : kv.map (fun p => (p.1, some p.2)) = kvs.map fun p => (p.1, p.2.flat)) : GDic K w mg x kvs := by
  obtain ⟨es, n, T⟩ := t
  refine ⟨a, es, n, glo_ok X G g, T, fun z => ?_⟩
  unfold gdB at c
  rw [T.at_] at c
  obtain ⟨h1, h2⟩ := gdL_ok c
  have h2z := h2 z
  have lk : (kv.lookup z).map some = (kvs.lookup z).map (·.flat) := by
    clear c h1 h2 h2z
    induction kv generalizing kvs with
    | nil =>
      cases kvs with
      | nil => rfl
      | cons q kvs => simp at e
    | cons p kv ih =>
      cases kvs with
      | nil => simp at e
      | cons q kvs =>
        simp only [List.map_cons, List.cons.injEq, Prod.mk.injEq] at e
        obtain ⟨⟨e1, e2⟩, e3⟩ := e
        obtain ⟨p1, p2⟩ := p
        obtain ⟨q1, q2⟩ := q
        dsimp only at e1 e2
        subst e1
        rw [List.lookup_cons, List.lookup_cons]
        cases (z == p1) with
        | true => exact congrArg some e2
        | false => exact ih e3
  cases q : kvs.lookup z with
  | none =>
    rw [q] at lk
    have q2 : kv.lookup z = none := by
      cases r : kv.lookup z with
      | none => rfl
      | some v => rw [r] at lk; cases lk
    rw [q2] at h2z
    refine ⟨none, ?_, rfl⟩
    unfold PySem.W.nsIn
    rw [T.at_]
    dsimp only
    rw [h2z]
    dsimp only
    rw [h1]
    rfl
  | some d =>
    rw [q] at lk
    cases r : kv.lookup z with
    | none => rw [r] at lk; cases lk
    | some v =>
      rw [r] at lk h2z
      obtain ⟨en, h3, h4⟩ := h2z
      refine ⟨some en.val, ?_, v, en.val, rfl, ?_, h4⟩
      · unfold PySem.W.nsIn
        rw [T.at_]
        dsimp only
        rw [h3]
      · simpa using lk.symm
end HK
end Eb

namespace Eb
namespace ZS
open PySem RZ
open PySem.Sem (wp)
set_option maxRecDepth 100000
section
variable {prog : Program} {w : World} {A : Around} {E : Value → Shared → Prop} {s : Shared}
theorem next_item {z TI TO i1 i2 l2 : Addr} {k1 k2 c1 : Nat} {tx : Str} {tt : Tok} {ys : Array Value} {y a b : Value} {Q : Value → Shared → Prop} (D : ZipApart z TI TO i1 i2 l2 l2)
    (hz : IsZip s.heap z TI TO .none) (hTI : IsPair s.heap TI (.ref i1) (.ref i2)) (hTO : IsPair s.heap TO a b)
    (h1 : s.heap.IsStrIter i1 "str_ascii_iterator" tx tt k1) (h2 : s.heap.IsTupleIter i2 l2 k2) (hl2 : s.heap.IsTuple l2 ys) (hx : tx.cps[k1]? = some c1) (hy : ys[k2]? = some y)
    (hQ : ∀ h' t', IsZip h' z TI TO (rawInt s.heap.objs.size) → IsPair h' TO (.str ⟨#[c1]⟩ s.toks) y → h'.IsStrIter i1 "str_ascii_iterator" tx tt (k1 + 1) → h'.IsTupleIter i2 l2 (k2 + 1) → IsPair h' s.heap.objs.size (.str ⟨#[c1]⟩ s.toks) y → h'.objs.size = s.heap.objs.size + 1 →
      (∀ c o, c ≠ z → c ≠ TO → c ≠ i1 → c ≠ i2 → s.heap.get? c = some o → h'.get? c = some o) → Q (.ref s.heap.objs.size) { s with heap := h', toks := t' }) :
    wpAny (model prog w) A (Builtin.«zip.__next__» ⟨[.ref z], []⟩) (fun fin s' => ∃ v, fin = .done (.ret v) ∧ Q v s') E s := by
  show wpAny _ _ (field (.ref z) 2 >>= _) _ _ _
  refine wpAny_bind (wpAny_field hz rfl (x := .bool false) rfl ?_)
  show wpAny _ _ (field (.ref z) 3 >>= _) _ _ _
  refine wpAny_bind (wpAny_field hz rfl (x := .ref TI) rfl ?_)
  refine wpAny_bind (wpAny_seqItems hTI rfl ?_)
  show wpAny _ _ (Builtin.SmallTypes.ownedTupleIsFree (.ref z) >>= _) _ _ _
  refine wpAny_bind ?_
  unfold Builtin.SmallTypes.ownedTupleIsFree
  refine wpAny_bind (wpAny_field hz rfl (x := .none) rfl (wpAny_pure ?_))
  simp only [if_true]
  refine wpAny_bind (wpAny_rule ?_)
  refine wpAny_bind (wpAny_field hz rfl (x := .ref TO) rfl ?_)
  refine wpAny_bind (wpAny_setField_rec hz (by simp) fun h₁ hz₁ hs₁ => ?_)
  replace hz₁ : IsZip h₁ z TI TO .ellipsis := hz₁
  refine wpAny_bind ?_
  simp only [List.zipIdx_cons, List.zipIdx_nil, List.forIn_cons, List.forIn_nil]
  refine wpAny_bind (wpAny_bind (wpAny_onRaise ?_))
  show wpAny _ _ (Builtin.SmallTypes.nextOf (.ref i1) >>= _) _ _ _
  refine wpAny_bind (wpAny_nextOf_ascii_item (h1.extBut hs₁.extBut D.i1z) hx fun h₂ h1₂ hs₂ => wpAny_pure ?_)
  have hTO₂ : IsPair h₂ TO a b := hs₂.extBut _ _ D.TOi1 (hs₁.extBut _ _ D.TOz hTO)
  refine wpAny_bind (wpAny_seqItems hTO₂ rfl ?_)
  refine wpAny_bind (wpAny_updateSeq_pair hTO₂ fun h₃ hTO₃ hs₃ => ?_)
  replace hTO₃ : IsPair h₃ TO (.str ⟨#[c1]⟩ s.toks) b := hTO₃
  refine wpAny_bind (wpAny_letGo (wpAny_pure ?_))
  refine wpAny_bind (wpAny_bind (wpAny_onRaise ?_))
  show wpAny _ _ (Builtin.SmallTypes.nextOf (.ref i2) >>= _) _ _ _
  refine wpAny_bind (nextOf_tuple_item (((h2.extBut hs₁.extBut D.i2z).extBut hs₂.extBut D.i12.symm).extBut hs₃.extBut D.TOi2.symm)
    (((hl2.extBut hs₁.extBut D.l2z).extBut hs₂.extBut D.l2i1).extBut hs₃.extBut D.l2TO) hy fun h₄ h2₄ hs₄ => wpAny_pure ?_)
  have hTO₄ : IsPair h₄ TO (.str ⟨#[c1]⟩ s.toks) b := hs₄.extBut _ _ D.TOi2 hTO₃
  refine wpAny_bind (wpAny_seqItems hTO₄ rfl ?_)
  refine wpAny_bind (wpAny_updateSeq_pair hTO₄ fun h₅ hTO₅ hs₅ => ?_)
  replace hTO₅ : IsPair h₅ TO (.str ⟨#[c1]⟩ s.toks) y := hTO₅
  refine wpAny_bind (wpAny_letGo (wpAny_pure (wpAny_pure ?_)))
  refine wpAny_bind (wpAny_seqItems hTO₅ rfl ?_)
  refine wpAny_bind (wpAny_newTuple ?_)
  have hsz : h₅.objs.size = s.heap.objs.size := by rw [hs₅.1, hs₄.1, hs₃.1, hs₂.1, hs₁.1]
  have hz₅ : IsZip h₅ z TI TO .ellipsis := hs₅.extBut _ _ D.TOz.symm (hs₄.extBut _ _ D.i2z.symm (hs₃.extBut _ _ D.TOz.symm (hs₂.extBut _ _ D.i1z.symm hz₁)))
  have hk₅ : ∀ c o, c ≠ z → c ≠ TO → c ≠ i1 → c ≠ i2 → s.heap.get? c = some o → h₅.get? c = some o := fun c o c1 c2 c3 c4 e =>
    hs₅.extBut _ _ c2 (hs₄.extBut _ _ c4 (hs₃.extBut _ _ c2 (hs₂.extBut _ _ c3 (hs₁.extBut _ _ c1 e))))
  have h1₅ : h₅.IsStrIter i1 "str_ascii_iterator" tx tt (k1 + 1) := ((h1₂.extBut hs₃.extBut D.TOi1.symm).extBut hs₄.extBut D.i12).extBut hs₅.extBut D.TOi1.symm
  have h2₅ : h₅.IsTupleIter i2 l2 (k2 + 1) := h2₄.extBut hs₅.extBut D.TOi2.symm
  have hzlt : z < h₅.objs.size := Heap.lt_size hz₅
  have hTOlt : TO < h₅.objs.size := Heap.lt_size hTO₅
  have hi1lt : i1 < h₅.objs.size := by obtain ⟨_, e, _⟩ := h1₅; exact Heap.lt_size e
  have hi2lt : i2 < h₅.objs.size := by obtain ⟨_, e, _⟩ := h2₅; exact Heap.lt_size e
  show wpAny _ _ (Builtin.SmallTypes.ownedTupleHandOut (.ref z) (.ref h₅.objs.size) >>= _) _ _ _
  refine wpAny_bind ?_
  unfold Builtin.SmallTypes.ownedTupleHandOut
  have hz₆ : IsZip (h₅.push { cls := .type "tuple", data := .seq #[.str ⟨#[c1]⟩ s.toks, y] }) z TI TO .ellipsis := Heap.get?_push_of_some _ hz₅
  refine wpAny_bind (wpAny_setField_rec hz₆ (by simp) fun h₇ hz₇ hs₇ => ?_)
  replace hz₇ : IsZip h₇ z TI TO (rawInt h₅.objs.size) := hz₇
  refine wpAny_setField_rec hz₇ (by simp) fun h₈ hz₈ hs₈ => ?_
  replace hz₈ : IsZip h₈ z TI TO (rawInt h₅.objs.size) := hz₈
  have up : ∀ c o, c ≠ z → h₅.get? c = some o → h₈.get? c = some o := fun c o c1 e => hs₈.extBut _ _ c1 (hs₇.extBut _ _ c1 (Heap.get?_push_of_some _ e))
  have hT₈ : IsPair h₈ h₅.objs.size (.str ⟨#[c1]⟩ s.toks) y := hs₈.extBut _ _ (Nat.ne_of_gt hzlt) (hs₇.extBut _ _ (Nat.ne_of_gt hzlt) (Heap.get?_push_size _ rfl))
  have hz8 : h₈.objs.size = h₅.objs.size + 1 := by rw [hs₈.1, hs₇.1, Heap.size_push]
  rw [hsz] at hz₈ hT₈ hz8
  refine wpAny_pure ⟨_, rfl, ?_⟩
  show Q (.ref h₅.objs.size) _
  rw [hsz]
  exact hQ h₈ _ hz₈ (up _ _ D.TOz hTO₅) (let ⟨o, e, r⟩ := h1₅; ⟨o, up _ o D.i1z e, r⟩) (h2₅.at fun o e => up _ o D.i2z e) hT₈ hz8 fun c o c1 c2 c3 c4 e => up c o c1 (hk₅ c o c1 c2 c3 c4 e)

theorem next_end {z TI TO i1 i2 l2 : Addr} {k1 k2 : Nat} {tx : Str} {tt : Tok} {ys : Array Value} {a b : Value} {Q : Fin → Shared → Prop} (hh : A.handled = none) (D : ZipApart z TI TO i1 i2 l2 l2)
    (hz : IsZip s.heap z TI TO .none) (hTI : IsPair s.heap TI (.ref i1) (.ref i2)) (hTO : IsPair s.heap TO a b)
    (h1 : s.heap.IsStrIter i1 "str_ascii_iterator" tx tt k1) (h2 : s.heap.IsTupleIter i2 l2 k2) (hl2 : s.heap.IsTuple l2 ys) (hend : tx.cps[k1]? = none ∨ ys[k2]? = none)
    (hE : ∀ h' e t', (∀ c o, c ≠ z → c ≠ TO → c ≠ i1 → c ≠ i2 → s.heap.get? c = some o → h'.get? c = some o) → (∃ o, h'.get? e = some o ∧ o.cls = .type "StopIteration") → E (.ref e) { s with heap := h', toks := t' }) :
    wpAny (model prog w) A (Builtin.«zip.__next__» ⟨[.ref z], []⟩) Q E s := by
  show wpAny _ _ (field (.ref z) 2 >>= _) _ _ _
  refine wpAny_bind (wpAny_field hz rfl (x := .bool false) rfl ?_)
  show wpAny _ _ (field (.ref z) 3 >>= _) _ _ _
  refine wpAny_bind (wpAny_field hz rfl (x := .ref TI) rfl ?_)
  refine wpAny_bind (wpAny_seqItems hTI rfl ?_)
  show wpAny _ _ (Builtin.SmallTypes.ownedTupleIsFree (.ref z) >>= _) _ _ _
  refine wpAny_bind ?_
  unfold Builtin.SmallTypes.ownedTupleIsFree
  refine wpAny_bind (wpAny_field hz rfl (x := .none) rfl (wpAny_pure ?_))
  simp only [if_true]
  refine wpAny_bind (wpAny_rule ?_)
  refine wpAny_bind (wpAny_field hz rfl (x := .ref TO) rfl ?_)
  refine wpAny_bind (wpAny_setField_rec hz (by simp) fun h₁ hz₁ hs₁ => ?_)
  replace hz₁ : IsZip h₁ z TI TO .ellipsis := hz₁
  refine wpAny_bind ?_
  simp only [List.zipIdx_cons, List.zipIdx_nil, List.forIn_cons, List.forIn_nil]
  refine wpAny_bind (wpAny_bind (wpAny_onRaise ?_))
  show wpAny _ _ (Builtin.SmallTypes.nextOf (.ref i1) >>= _) _ _ _
  cases hx : tx.cps[k1]? with
  | none =>
    refine wpAny_bind (wpAny_nextOf_ascii_end hh (h1.extBut hs₁.extBut D.i1z) hx fun h₂ e hs₂ he => ?_)
    obtain ⟨oe, hoe, hce⟩ := he
    have hz₂ : IsZip h₂ z TI TO .ellipsis := hs₂ _ _ D.i1z.symm hz₁
    have hez : e ≠ z := fun x => by subst x; rw [hz₂] at hoe; cases hoe; simp at hce
    refine wpAny_setField_rec hz₂ (by simp) fun h₃ _ hs₃ => hE h₃ e _ (fun c o c1 _ c3 _ x => hs₃.extBut _ _ c1 (hs₂ _ _ c3 (hs₁.extBut _ _ c1 x))) ⟨oe, hs₃.extBut _ _ hez hoe, hce⟩
  | some x =>
    have hy : ys[k2]? = none := by rcases hend with h | h; rw [hx] at h; cases h; exact h
    refine wpAny_bind (wpAny_nextOf_ascii_item (h1.extBut hs₁.extBut D.i1z) hx fun h₂ h1₂ hs₂ => wpAny_pure ?_)
    have hTO₂ : IsPair h₂ TO a b := hs₂.extBut _ _ D.TOi1 (hs₁.extBut _ _ D.TOz hTO)
    refine wpAny_bind (wpAny_seqItems hTO₂ rfl ?_)
    refine wpAny_bind (wpAny_updateSeq_pair hTO₂ fun h₃ hTO₃ hs₃ => ?_)
    refine wpAny_bind (wpAny_letGo (wpAny_pure ?_))
    refine wpAny_bind (wpAny_bind (wpAny_onRaise ?_))
    show wpAny _ _ (Builtin.SmallTypes.nextOf (.ref i2) >>= _) _ _ _
    refine wpAny_bind (nextOf_tuple_end hh (((h2.extBut hs₁.extBut D.i2z).extBut hs₂.extBut D.i12.symm).extBut hs₃.extBut D.TOi2.symm)
      (((hl2.extBut hs₁.extBut D.l2z).extBut hs₂.extBut D.l2i1).extBut hs₃.extBut D.l2TO) hy fun h₄ e hs₄ he => ?_)
    obtain ⟨oe, hoe, hce⟩ := he
    have hz₄ : IsZip h₄ z TI TO .ellipsis := hs₄ _ _ D.i2z.symm (hs₃.extBut _ _ D.TOz.symm (hs₂.extBut _ _ D.i1z.symm hz₁))
    have hez : e ≠ z := fun x => by subst x; rw [hz₄] at hoe; cases hoe; simp at hce
    refine wpAny_setField_rec hz₄ (by simp) fun h₅ _ hs₅ => hE h₅ e _ (fun c o c1 c2 c3 c4 x => hs₅.extBut _ _ c1 (hs₄ _ _ c4 (hs₃.extBut _ _ c2 (hs₂.extBut _ _ c3 (hs₁.extBut _ _ c1 x))))) ⟨oe, hs₅.extBut _ _ hez hoe, hce⟩

theorem pyNext_item {z TI TO i1 i2 l2 : Addr} {k1 k2 c1 : Nat} {tx : Str} {tt : Tok} {ys : Array Value} {y a b : Value} {Q : Option Value → Shared → Prop} (D : ZipApart z TI TO i1 i2 l2 l2)
    (hz : IsZip s.heap z TI TO .none) (hTI : IsPair s.heap TI (.ref i1) (.ref i2)) (hTO : IsPair s.heap TO a b)
    (h1 : s.heap.IsStrIter i1 "str_ascii_iterator" tx tt k1) (h2 : s.heap.IsTupleIter i2 l2 k2) (hl2 : s.heap.IsTuple l2 ys) (hx : tx.cps[k1]? = some c1) (hy : ys[k2]? = some y)
    (hQ : ∀ h' t', IsZip h' z TI TO (rawInt s.heap.objs.size) → IsPair h' TO (.str ⟨#[c1]⟩ s.toks) y → h'.IsStrIter i1 "str_ascii_iterator" tx tt (k1 + 1) → h'.IsTupleIter i2 l2 (k2 + 1) → IsPair h' s.heap.objs.size (.str ⟨#[c1]⟩ s.toks) y → h'.objs.size = s.heap.objs.size + 1 →
      (∀ c o, c ≠ z → c ≠ TO → c ≠ i1 → c ≠ i2 → s.heap.get? c = some o → h'.get? c = some o) → Q (some (.ref s.heap.objs.size)) { s with heap := h', toks := t' }) :
    wpAny (model prog w) A (pyNext (.ref z)) Q E s := by
  have hT : s.TypeIs (.ref z) "zip" := ⟨_, hz, rfl⟩
  unfold pyNext
  exact wpAny_bind (wpAny_attempt (wpAny_callSpecial?_slot (name := Str.ofString "__next__") hT F.slot_zip_next
    (wpAny_call_entry F.slot_zip_next hT F.entry_zip_next
      (next_item D hz hTI hTO h1 h2 hl2 hx hy fun h' t' a1 a2 a3 a4 a5 a6 a7 => wpAny_pure (hQ h' t' a1 a2 a3 a4 a5 a6 a7)) (F.args_zip_next_1 _))))

theorem pyNext_end {z TI TO i1 i2 l2 : Addr} {k1 k2 : Nat} {tx : Str} {tt : Tok} {ys : Array Value} {a b : Value} {Q : Option Value → Shared → Prop} (hh : A.handled = none) (D : ZipApart z TI TO i1 i2 l2 l2)
    (hz : IsZip s.heap z TI TO .none) (hTI : IsPair s.heap TI (.ref i1) (.ref i2)) (hTO : IsPair s.heap TO a b)
    (h1 : s.heap.IsStrIter i1 "str_ascii_iterator" tx tt k1) (h2 : s.heap.IsTupleIter i2 l2 k2) (hl2 : s.heap.IsTuple l2 ys) (hend : tx.cps[k1]? = none ∨ ys[k2]? = none)
    (hQ : ∀ h' t', (∀ c o, c ≠ z → c ≠ TO → c ≠ i1 → c ≠ i2 → s.heap.get? c = some o → h'.get? c = some o) → Q none { s with heap := h', toks := t' }) : wpAny (model prog w) A (pyNext (.ref z)) Q E s := by
  have hT : s.TypeIs (.ref z) "zip" := ⟨_, hz, rfl⟩
  unfold pyNext
  refine wpAny_bind (wpAny_attempt (wpAny_callSpecial?_slot (name := Str.ofString "__next__") hT F.slot_zip_next
    (wpAny_call_entry F.slot_zip_next hT F.entry_zip_next (next_end hh D hz hTI hTO h1 h2 hl2 hend fun h' e t' hk he => ?_) (F.args_zip_next_1 _))))
  obtain ⟨o, ho, hc⟩ := he
  refine wpAny_bind (wpAny_isInstance (T := "StopIteration") (b := true) ⟨o, ho, hc⟩ isSubtype_stop ?_)
  exact wpAny_pure (hQ _ _ hk)
end
abbrev H1 (h : Heap) (tx : Str) (tt : Tok) : Heap := h.push { cls := .type "str_ascii_iterator", data := .fields #[.str tx tt, .int 0 0] }
abbrev H2 (h : Heap) (tx : Str) (tt : Tok) (l2 : Addr) : Heap := (H1 h tx tt).push { cls := .type "tuple_iterator", data := .fields #[.ref l2, .int 0 0] }
abbrev H3 (h : Heap) (tx : Str) (tt : Tok) (l2 : Addr) : Heap := (H2 h tx tt l2).push { cls := .type "tuple", data := .seq #[.ref h.objs.size, .ref (H1 h tx tt).objs.size] }
abbrev H4 (h : Heap) (tx : Str) (tt : Tok) (l2 : Addr) : Heap := (H3 h tx tt l2).push { cls := .type "tuple", data := .seq #[.none, .none] }
abbrev H5 (h : Heap) (tx : Str) (tt : Tok) (l2 : Addr) : Heap := (H4 h tx tt l2).push { cls := .type "zip", data := .fields #[.none, .bool false, .bool false, .ref (H2 h tx tt l2).objs.size, .ref (H3 h tx tt l2).objs.size] }
theorem meets_new (tx : Str) (tt : Tok) (l2 : Addr) (ys : Array Value) (ha : tx.cps.all (· < 128) = true) :
    Meets (Builtin.«zip.__new__» ⟨[.type "zip", .str tx tt, .ref l2], []⟩) (fun _ R s => s.heap.IsTuple l2 ys ∧
      R (.ok (.ret (.ref (H4 s.heap tx tt l2).objs.size))) { s with heap := H5 s.heap tx tt l2 }) :=
  .of_wp fun prog w A R s h => by
    obtain ⟨hp, g, d, tk, os⟩ := s; obtain ⟨hl2, h⟩ := h
    have hsub := sub_zip
    have hL2 : Heap.IsTuple (Shared.heap ⟨hp.push { cls := .type "str_ascii_iterator", data := .fields #[.str tx tt, .int 0 0] }, g, d, tk, os⟩) l2 ys := Heap.IsTuple.push hl2 _
    wp_walk using wpAny_pyIter_ascii ha, wpAny_pyIter_tuple hL2
    exact ⟨_, rfl, h⟩
section
variable {prog : Program} {w : World} {A : Around} {E : Value → Shared → Prop} {s : Shared}
theorem call_zip {tx : Str} {tt : Tok} {l2 : Addr} {ys : Array Value} {Q : Value → Shared → Prop} (ha : tx.cps.all (· < 128) = true) (hl2 : s.heap.IsTuple l2 ys)
    (h : ∀ h', IsZip h' (s.heap.objs.size + 4) (s.heap.objs.size + 2) (s.heap.objs.size + 3) .none → IsPair h' (s.heap.objs.size + 2) (.ref s.heap.objs.size) (.ref (s.heap.objs.size + 1)) →
      IsPair h' (s.heap.objs.size + 3) .none .none → h'.IsStrIter s.heap.objs.size "str_ascii_iterator" tx tt 0 → h'.IsTupleIter (s.heap.objs.size + 1) l2 0 → h'.objs.size = s.heap.objs.size + 5 →
      (∀ c o, s.heap.get? c = some o → h'.get? c = some o) → Q (.ref (s.heap.objs.size + 4)) { s with heap := h' }) :
    wpAny (model prog w) A (call (.type "zip") [.str tx tt, .ref l2]) Q E s := by
  refine callType_new F.called_zip (by decide) (F.typeCall_zip_2 _ _) (F.newCall_zip_2 _ _) (fun obj => F.args_object_init_3 obj _ _) F.entry_zip_new
    (meets_new tx tt l2 ys ha) ⟨hl2, ?_⟩
  have z1 : (H1 s.heap tx tt).objs.size = s.heap.objs.size + 1 := Heap.size_push ..
  have z2 : (H2 s.heap tx tt l2).objs.size = s.heap.objs.size + 2 := by rw [Heap.size_push, z1]
  have z3 : (H3 s.heap tx tt l2).objs.size = s.heap.objs.size + 3 := by rw [Heap.size_push, z2]
  have z4 : (H4 s.heap tx tt l2).objs.size = s.heap.objs.size + 4 := by rw [Heap.size_push, z3]
  have z5 : (H5 s.heap tx tt l2).objs.size = s.heap.objs.size + 5 := by rw [Heap.size_push, z4]
  have g5 : (H5 s.heap tx tt l2).get? (H4 s.heap tx tt l2).objs.size = some _ := Heap.get?_push_size _ rfl
  have g4 : (H5 s.heap tx tt l2).get? (H3 s.heap tx tt l2).objs.size = some _ := Heap.get?_push_of_some _ (Heap.get?_push_size _ rfl)
  have g3 : (H5 s.heap tx tt l2).get? (H2 s.heap tx tt l2).objs.size = some _ := Heap.get?_push_of_some _ (Heap.get?_push_of_some _ (Heap.get?_push_size _ rfl))
  have g2 : (H5 s.heap tx tt l2).get? (H1 s.heap tx tt).objs.size = some _ := Heap.get?_push_of_some _ (Heap.get?_push_of_some _ (Heap.get?_push_of_some _ (Heap.get?_push_size _ rfl)))
  have g1 : (H5 s.heap tx tt l2).get? s.heap.objs.size = some _ := Heap.get?_push_of_some _ (Heap.get?_push_of_some _ (Heap.get?_push_of_some _ (Heap.get?_push_of_some _ (Heap.get?_push_size _ rfl))))
  show _ ∧ _
  rw [z2, z3, z4] at g5
  rw [z1, z2] at g3
  rw [z3] at g4
  rw [z1] at g2
  rw [z4]
  exact ⟨⟨_, g5, rfl⟩, h _ g5 g3 g4 ⟨_, g1, rfl, rfl⟩ ⟨_, g2, rfl, rfl⟩ z5 fun c o x =>
    Heap.get?_push_of_some _ (Heap.get?_push_of_some _ (Heap.get?_push_of_some _ (Heap.get?_push_of_some _ (Heap.get?_push_of_some _ x))))⟩
end
end ZS
end Eb
namespace Eb
namespace ZS
open PySem PySem.Spec PyProof.Rows L2 RZ
def ItSZ (K : PySem.W.Frag) (tx : Str) (b : Addr) : It :=
  ⟨fun i H => ∃ (ys : List V) (y : V), i < tx.cps.size ∧ SqT K H b ys ∧ ys[i]? = some y,
    fun i H v H' => ∃ T c y, v = .ref T ∧ H T = none ∧ H' = upd H T (.tup [.str ⟨#[c]⟩, y]) ∧ tx.cps[i]? = some c ∧ ∀ ys, SqT K H b ys → ys[i]? = some y,
    fun i H => ∃ ys : List V, SqT K H b ys ∧ (tx.cps.size ≤ i ∨ ys.length ≤ i)⟩
theorem turn {P : Program} {w : World} {K : PySem.W.Frag} {elts : List Expr} {kk : Nat} {tpos : Pos} {tx : Str} {tt : Tok} {b z TI TO i1 i2 : Addr} (D : ZipApart z TI TO i1 i2 b b) :
    Turn P w K (.Tuple elts kk tpos) (ItSZ K tx b) [z, TI, TO, i1, i2] z (fun i h => IsZip h z TI TO .none ∧ IsPair h TI (.ref i1) (.ref i2) ∧ (∃ x y, IsPair h TO x y) ∧ h.IsStrIter i1 "str_ascii_iterator" tx tt i ∧ h.IsTupleIter i2 b i) where
  mem := by simp
  obj := fun i h st c hc => by
    obtain ⟨hz, hTI, ⟨x, y, hTO⟩, ⟨o1, e1, _, d1⟩, ⟨o2, e2, _, d2⟩⟩ := st
    have e' : c = z ∨ c = TI ∨ c = TO ∨ c = i1 ∨ c = i2 := by simpa using hc
    rcases e' with q | q | q | q | q
    · rw [q]; exact ⟨_, hz, fun v q => nomatch q⟩
    · rw [q]; exact ⟨_, hTI, fun v q => nomatch q⟩
    · rw [q]; exact ⟨_, hTO, fun v q => nomatch q⟩
    · rw [q]; exact ⟨o1, e1, fun v q => by rw [d1] at q; cases q⟩
    · rw [q]; exact ⟨o2, e2, fun v q => by rw [d2] at q; cases q⟩
  keep := fun i h h' st k => by
    obtain ⟨hz, hTI, ⟨x, y, hTO⟩, h1, h2⟩ := st
    obtain ⟨o, ho, r⟩ := h1
    exact ⟨k z (by simp) _ hz, k TI (by simp) _ hTI, ⟨x, y, k TO (by simp) _ hTO⟩, ⟨o, k i1 (by simp) o ho, r⟩, h2.at fun o q => k i2 (by simp) o q⟩
  item := by
    intro X hP hw hK hc i pins s σ H E I hf st hg
    subst hP hw hK
    obtain ⟨hz, hTI, ⟨x0, y0, hTO⟩, h1, h2⟩ := st
    obtain ⟨ys, y, hi, hqy, hy⟩ := hg
    obtain ⟨its2, rv2, p2, _⟩ := I.tuple hqy
    obtain ⟨u2, hu2, ru2⟩ := rv2.get hy
    have hzl : z < s.heap.objs.size := Heap.lt_size hz
    have hx : tx.cps[i]? = some tx.cps[i] := Array.getElem?_eq_getElem hi
    generalize tx.cps[i] = c1 at hx
    refine pyNext_item D hz hTI hTO h1 h2 p2 hx (y := u2) (by simpa using hu2) fun h' t' z' TO' h1' h2' hT hsz hk => ?_
    refine ⟨_, rfl, wpAny_letOwnedTupleGo_zip (s := { s with heap := h', toks := t' }) z' fun h'' z'' sb => ?_⟩
    have hT2 : h''.get? s.heap.objs.size = some { cls := .type "tuple", data := .seq #[.str ⟨#[c1]⟩ s.toks, u2] } := (sb.2 _ (Nat.ne_of_gt hzl)).trans hT
    have new : ObjOk X.prog X.w (upd H s.heap.objs.size (.tup [.str ⟨#[c1]⟩, y])) h'' s.heap.objs.size (.tup [.str ⟨#[c1]⟩, y]) :=
      ⟨by show 2 ≤ sizeLine; decide, [.str ⟨#[c1]⟩ s.toks, u2], .cons ⟨_, rfl⟩ (.cons ru2 .nil), ⟨_, hT2, rfl, _, rfl⟩⟩
    have I1 : Inv X pins σ (upd H s.heap.objs.size (.tup [.str ⟨#[c1]⟩, y])) { s with heap := h'', toks := t' } :=
      I.turnedNew (t' := t') (ch := [z, TI, TO, i1, i2]) (fun c o hb q => (sb.2 c (fun q' => hb (by simp [q']))).trans (hk c o (fun q' => hb (by simp [q'])) (fun q' => hb (by simp [q'])) (fun q' => hb (by simp [q'])) (fun q' => hb (by simp [q'])) q)) hf (Nat.le_refl _) new
    refine ⟨.ref s.heap.objs.size, _, I1, rfl, ⟨_, c1, y, rfl, I.hok.fresh (Nat.le_refl _), rfl, hx, fun l hl => by rw [I.tuple_inj hl hqy]; exact hy⟩, ⟨z'', ?_, ⟨.str ⟨#[c1]⟩ s.toks, u2, ?_⟩, ?_, ?_⟩, fun c hcm => ?_⟩
    · exact (sb.2 _ D.TIz).trans (hk _ _ D.TIz D.TITO D.TIi1 D.TIi2 hTI)
    · exact (sb.2 _ D.TOz).trans TO'
    · obtain ⟨o, e, r⟩ := h1'
      exact ⟨o, (sb.2 _ D.i1z).trans e, r⟩
    · exact h2'.at fun o q => (sb.2 _ D.i2z).trans q
    · have hlt : c < s.heap.objs.size := by
        have e' : c = z ∨ c = TI ∨ c = TO ∨ c = i1 ∨ c = i2 := by simpa using hcm
        rcases e' with q | q | q | q | q
        · rw [q]; exact hzl
        · rw [q]; exact Heap.lt_size hTI
        · rw [q]; exact Heap.lt_size hTO
        · rw [q]; obtain ⟨_, e1, _⟩ := h1; exact Heap.lt_size e1
        · rw [q]; obtain ⟨_, e2, _⟩ := h2; exact Heap.lt_size e2
      rw [upd_ne (Nat.ne_of_lt hlt)]
      exact (hf c hcm).1
  done := by
    intro X hP hw hK hc i pins s σ H E I hf st hg
    subst hP hw hK
    obtain ⟨hz, hTI, ⟨x0, y0, hTO⟩, h1, h2⟩ := st
    obtain ⟨ys, hqy, hend⟩ := hg
    obtain ⟨its2, rv2, p2, _⟩ := I.tuple hqy
    have l2 := rv2.length
    have he : tx.cps[i]? = none ∨ its2.toArray[i]? = none := by
      rcases hend with q | q
      · exact .inl (Array.getElem?_eq_none q)
      · exact .inr (by simp; omega)
    exact pyNext_end (I.ok.hd hc) D hz hTI hTO h1 h2 p2 he fun h' t' hk => ⟨rfl, I.turnedL (t' := t') (ch := [z, TI, TO, i1, i2]) (fun c o hb q =>
      hk c o (fun q' => hb (by simp [q'])) (fun q' => hb (by simp [q'])) (fun q' => hb (by simp [q'])) (fun q' => hb (by simp [q'])) q) hf⟩
  self := fun A i s Q E st h => wpAny_pyIter_zip st.1 h
def iZipS (K : PySem.W.Frag) (ta : TA) : TI := fun σ H R => ta σ H fun vs H1 => ∃ tx b ys, vs = [.str tx, .ref b] ∧ tx.cps.all (· < 128) = true ∧ SqT K H1 b ys ∧ R (ItSZ K tx b) H1
theorem pi_zipS {X : Cx} {e e2 : Expr} {ta : TA} {p pos tpos : Pos} {elts : List Expr} {kk : Nat} (hg : Gl X "zip") (hm : X.mg "zip" = none) (ha : PA X [e, e2] ta)
    (hs : starEach [e, e2] X.env = (false, eval e X.env) :: starEach [e2] X.env := by rfl) (hpl : (backTo pos (starEach [e2] X.env)).any (·.1) = false := by rfl) :
    PI X (.Tuple elts kk tpos) (.Call (.Name "zip" p) [e, e2] [] pos) (iZipS X.K ta) := by
  refine ⟨fun pins s σ H R I h => ?_⟩
  refine Call_ (ld_blt I hg hm PyProof.Rows.boot_zip (PyProof.Rows.callWith_type1 (thn (ha.run pos pins s σ H _ I h) fun us s1 ⟨vs, H1, I1, r1, q1⟩ => ?_) hs hpl))
  obtain ⟨tx, b, ys, ex, hasc, hqy, q⟩ := q1
  subst ex
  cases r1 with
  | cons r rr =>
    cases rr with
    | cons r' rr =>
      cases rr
      obtain ⟨tt, rfl⟩ := r
      cases r'
      have fresh5 : ∀ c, c ∈ [s1.heap.objs.size + 4, s1.heap.objs.size + 2, s1.heap.objs.size + 3, s1.heap.objs.size, s1.heap.objs.size + 1] → FpOk X pins H1 c := fun c hcm => by
        have e' : c = s1.heap.objs.size + 4 ∨ c = s1.heap.objs.size + 2 ∨ c = s1.heap.objs.size + 3 ∨ c = s1.heap.objs.size ∨ c = s1.heap.objs.size + 1 := by simpa using hcm
        have hle : s1.heap.objs.size ≤ c := by
          rcases e' with z | z | z | z | z
          · rw [z]; exact Nat.le_add_right _ _
          · rw [z]; exact Nat.le_add_right _ _
          · rw [z]; exact Nat.le_add_right _ _
          · rw [z]; exact Nat.le_refl _
          · rw [z]; exact Nat.le_add_right _ _
        exact I1.fpOk hle (I1.hok.fresh hle)
      obtain ⟨its2, rv2, p2, _⟩ := I1.tuple hqy
      obtain ⟨o2, ho2, _⟩ := id p2
      refine call_zip hasc (show s1.heap.IsTuple b its2.toArray from p2) fun h' hz hTI hTO h1 h2 hsz hk => wpAny_pyIter_zip hz ?_
      have I2 : Inv X pins σ H1 { s1 with heap := h' } := I1.kept (t' := s1.toks) hk
      exact ⟨s1.heap.objs.size + 4, [s1.heap.objs.size + 4, s1.heap.objs.size + 2, s1.heap.objs.size + 3, s1.heap.objs.size, s1.heap.objs.size + 1], _, _, H1, rfl, I2, turn (PySem.W.ktu_apart s1.heap.objs.size b b (Heap.lt_size ho2) (Heap.lt_size ho2)), ⟨hz, hTI, ⟨_, _, hTO⟩, h1, h2⟩, fresh5, q⟩
end ZS
open PySem PySem.Spec PyProof.Rows L2
section
variable {X : Cx} {Λ : Lx} {w : WX} {a b c e : Expr} {ta tb tc t : DE} {u : DA} {pos p apos : Pos} {tg : Expr}
theorem it_zipS {W : Ow} {H : Hp} {tx : Str} {p' : Addr} {vs' : List V} {ds' : List D} (h' : SqT Λ.B.K (Λ.vis W H) p' vs') (r' : RepL Λ.B (Λ.vis W H) ds' vs') : ItOk Λ W H (ZS.ItSZ Λ.B.K tx p') (zpD (chD tx) ds') where
  go := fun i env' W' σ' H' hi S s => by
    simp [zpD, chD] at hi
    have hi2 : i < ds'.length := by omega
    obtain ⟨v', hv', _⟩ := r'.get (List.getElem?_eq_getElem hi2)
    exact ⟨vs', v', by omega, Same_seqT hid_le (Same_seqT s h'), hv'⟩
  stop := fun env' W' σ' H' S s => ⟨vs', Same_seqT hid_le (Same_seqT s h'), by
    rw [r'.len]
    simp [zpD, chD]
    omega⟩
  yld := fun i x env' W' σ' H' H'' hi S s y => by
    obtain ⟨T, c, z', rfl, hT, rfl, hc, y'⟩ := y
    obtain ⟨d', hd', rd'⟩ := r'.geti (y' vs' (Same_seqT hid_le (Same_seqT s h')))
    have hd : (chD tx)[i]? = some (.str ⟨#[c]⟩) := by simp [chD, hc]
    exact ⟨same_new hT, .tup [.str ⟨#[c]⟩, d'], by
      have hz : ((chD tx).zip ds')[i]? = some (.str ⟨#[c]⟩, d') := List.getElem?_zip_eq_some.mpr ⟨hd, hd'⟩
      simp only [zpD, List.getElem?_map, hz, Option.map_some], new_tup S hT ⟨_, _, rfl, rfl, _, _, rfl, rd'.up s, rfl⟩⟩
def dZpS (ta tb : DE) : DA := fun env q x => ta env (fun d => tb env (fun d' => match d, d' with
  | .str tx, .tup ds' => tx.cps.all (· < 128) = true ∧ q (zpD (chD tx) ds')
  | _, _ => False) x) x
theorem xi_zipS {p tpos : Pos} {elts : List Expr} {kk : Nat} (hg : Gl X "zip") (hm : X.mg "zip" = none) (ha : XE X Λ w a ta) (hb : XE X Λ w b tb)
    (hs : starEach [a, b] X.env = (false, eval a X.env) :: starEach [b] X.env := by rfl) (hs2 : starEach [b] X.env = (false, eval b X.env) :: starEach [] X.env := by rfl) (hpl : (backTo pos (starEach [b] X.env)).any (·.1) = false := by rfl) :
    XI X Λ w (.Tuple elts kk tpos) (.Call (.Name "zip" p) [a, b] [] pos) (dZpS ta tb) := ⟨fun hK => by
  obtain ⟨r, p, s⟩ := ha.ex hK
  obtain ⟨r', p', s'⟩ := hb.ex hK
  refine ⟨_, ZS.pi_zipS hg hm (pa_cons p (pa_cons p' pa_nil hs2) hs) hs hpl, fun env W σ H R q x S hx hh k => s env W σ H _ _ x S hx hh fun d v H1 h1 S1 e1 r1 => s' env W σ H1 _ _ x S1 (hx.on e1) h1 fun d' v' H2 h2 S2 e2 r2 => ?_⟩
  cases d <;> cases d' <;> first | exact h2.elim | skip
  cases r1
  obtain ⟨p', vs', rfl, h4, r4⟩ := r2
  rw [hK]
  exact ⟨_, p', vs', rfl, h2.1, Same_seqT hid_le h4, k _ _ H2 h2.2 S2 (e1.trans e2) (it_zipS h4 r4)⟩⟩
end
end Eb

namespace Eb
open PySem PySem.Spec PyProof.Rows L2 StX
def supArgs : Stmt → List Expr
  | .Expr (.Call _ es _ _) _ => es
  | _ => []
theorem look_at : ∀ {gs : List (Str × V)} {k : Nat} {g : Str}, ((gs.take k).map (·.1)).contains g = false → (gs.map (·.1))[k]? = some g → gs.lookup g = (gs.map (·.2))[k]?
  | [], k, g, _, h => by simp at h
  | (n, v) :: gs, 0, g, _, h => by
    simp only [List.map_cons, List.getElem?_cons_zero, Option.some.injEq] at h
    subst h
    simp [List.lookup_cons]
  | (n, v) :: gs, k + 1, g, h1, h => by
    simp only [List.take_succ_cons, List.map_cons, List.contains_cons, Bool.or_eq_false_iff] at h1
    rw [List.lookup_cons, h1.1]
    simp only [List.map_cons, List.getElem?_cons_succ] at h ⊢
    exact look_at h1.2 h
section
variable {X : Cx} {Λ : Lx} {w : WX} {a b c e o i : Expr} {es : List Expr} {ta tb tc t : DE} {tA tB : DT} {pos p apos cpos : Pos} {st : Stmt} {ts : DS}
def dSeF (i c k : Nat) : DE := fun env q _ => match env[i]? with
  | some (Sl.se c' fs) => c' = c ∧ (match fs[k]? with
    | some d => q d
    | none => False)
  | _ => False
theorem xe_selfF {i cc kk : Nat} {g : Str} (ok : PutOk Λ.B g cc kk) (ho : PE X o (tVar i)) (hb : attributeBase o g X.env (eval o X.env) = eval o X.env := by rfl) : XE X Λ w (.Attribute o g pos) (dSeF i cc kk) := ⟨fun hK => by
  refine ⟨_, pe_fld ho hb, fun env W σ H Q q x S hx h k => ?_⟩
  unfold dSeF at h
  split at h
  · rename_i c' fs hd
    obtain ⟨p, dx, gs, hw, hσ, hp, ⟨hn, hM⟩, rl⟩ := S.sl i _ hd
    obtain ⟨rfl, h⟩ := h
    split at h
    · rename_i d hk
      obtain ⟨v, hv, rv⟩ := rl.get hk
      have hlt : kk < fs.length := (List.getElem?_eq_some_iff.mp hk).1
      have hat : (gs.map (·.1))[kk]? = some g := by
        have e1 : ((Λ.B.fl c').take (kk + 1))[kk]? = some g := by
          rw [ok.2.2.1]
          have hl : ((Λ.B.fl c').take kk).length = kk := by rw [List.length_take]; have := ok.2.2.2.2.2; omega
          rw [List.getElem?_append_right (by omega), hl]; simp
        rw [hn, List.getElem?_take]
        rw [List.getElem?_take] at e1
        rw [if_pos hlt]
        rw [if_pos (by omega)] at e1
        exact e1
      have hct : ((gs.take kk).map (·.1)).contains g = false := by
        rw [List.map_take, hn, List.take_take, Nat.min_eq_left (by omega)]
        exact ok.2.2.2.2.1
      refine ⟨_, hσ, p, _, dx, gs, v, rfl, hp, by rw [hK]; exact ok.1, by rw [hK]; exact ok.2.1, by rw [look_at hct hat]; exact hv, k d v H h S .refl rv⟩
    · exact h.elim
  · exact h.elim⟩
end
section
variable {X : Cx} {Λ : Lx} {w : WX} {a b c e i : Expr} {ta tb tc t : DE} {pos p apos cpos : Pos} {y : Str} {kvs : List (Str × D)}
theorem xt_gin {p1 : Pos} (hg : Gl X y) (G : GDic X.K X.w X.mg y kvs) (ha : XE X Λ w i ta) (hdb : (y == ("__debug__" : Str)) = false := by decide) (hmk : behindInMarks .In (.Name y p1) = false := by rfl) : XT X Λ w (.Compare i [.In] [.Name y p1] pos) (dTest (dGIn false kvs ta)) := ⟨fun hK => by
  obtain ⟨ra, pa, sa⟩ := ha.ex hK
  obtain ⟨ad, es, n, hm, hd, hv⟩ := G
  refine ⟨_, pt_cmpR (op_in_kd hd) pa (pe_glob (v := .ref ad) hg hm rfl hdb) hmk, snd_test fun env W σ H Q q x S hx h k => sa env W σ H _ _ x S hx h fun d v H1 h1 S1 e1 r1 => ?_⟩
  cases d <;> first | exact h1.elim | skip
  rename_i z
  cases r1
  obtain ⟨r, hr, hv⟩ := hv z
  refine ⟨z, r, rfl, rfl, hr, ?_⟩
  have e := g_in (a := ad) hv
  rw [e]
  exact k _ _ H1 h1 S1 e1 rfl⟩
theorem xt_gnotin {p1 : Pos} (hg : Gl X y) (G : GDic X.K X.w X.mg y kvs) (ha : XE X Λ w i ta) (hdb : (y == ("__debug__" : Str)) = false := by decide) (hmk : behindInMarks .NotIn (.Name y p1) = false := by rfl) : XT X Λ w (.Compare i [.NotIn] [.Name y p1] pos) (dTest (dGIn true kvs ta)) := ⟨fun hK => by
  obtain ⟨ra, pa, sa⟩ := ha.ex hK
  obtain ⟨ad, es, n, hm, hd, hv⟩ := G
  refine ⟨_, pt_cmpR (op_notIn_kd hd) pa (pe_glob (v := .ref ad) hg hm rfl hdb) hmk, snd_test fun env W σ H Q q x S hx h k => sa env W σ H _ _ x S hx h fun d v H1 h1 S1 e1 r1 => ?_⟩
  cases d <;> first | exact h1.elim | skip
  rename_i z
  cases r1
  obtain ⟨r, hr, hv⟩ := hv z
  refine ⟨z, r, rfl, rfl, hr, ?_⟩
  have e := g_in (a := ad) hv
  rw [e]
  exact k _ _ H1 h1 S1 e1 rfl⟩
end
mutual
def D.nl : D → Bool
  | .lst _ => false
  | .tup ds => nlL ds
  | .obj _ ds => nlL ds
  | .dic _ ds => nlL ds
  | .non => true
  | .bl _ => true
  | .int _ => true
  | .str _ => true
  | .ty _ => true
  | .cl _ => true
def nlL : List D → Bool
  | [] => true
  | d :: ds => d.nl && nlL ds
end
section
variable {B : Tb} {H H' : Hp}
theorem nl_seq {K : PySem.W.Frag} {a : Addr} {vs : List V} (s : ∀ a o, (∀ vs, o ≠ .lst vs) → H a = some o → H' a = some o) (h : SqT K H a vs) : SqT K H' a vs := by
  rcases h with (h | ⟨o, h⟩) | h
  · exact .inl (.inl (s _ _ (fun _ z => by cases z) h))
  · exact .inl (.inr ⟨o, s _ _ (fun _ z => by cases z) h⟩)
  · exact .inr h
mutual
theorem Rep.nl (s : ∀ a o, (∀ vs, o ≠ .lst vs) → H a = some o → H' a = some o) : ∀ (d : D) (v : V), d.nl = true → Rep B H d v → Rep B H' d v
  | .non, _, _, h => h
  | .bl _, _, _, h => h
  | .int _, _, _, h => h
  | .str _, _, _, h => h
  | .ty _, _, _, h => h
  | .cl _, _, _, h => h
  | .lst ds, _, n, _ => absurd n (by rw [D.nl]; exact Bool.false_ne_true)
  | .tup ds, _, n, ⟨a, vs, e, h, r⟩ => ⟨a, vs, e, nl_seq s h, RepL.nl s ds vs (by rw [D.nl] at n; exact n) r⟩
  | .obj _ ds, _, n, ⟨a, dx, gs, e, h, m, r⟩ => ⟨a, dx, gs, e, s _ _ (fun _ z => by cases z) h, m, RepL.nl s ds _ (by rw [D.nl] at n; exact n) r⟩
  | .dic _ ds, _, n, ⟨a, o, kvs, e, h, m, r⟩ => ⟨a, o, kvs, e, s _ _ (fun _ z => by cases z) h, m, RepL.nl s ds _ (by rw [D.nl] at n; exact n) r⟩
theorem RepL.nl (s : ∀ a o, (∀ vs, o ≠ .lst vs) → H a = some o → H' a = some o) : ∀ (ds : List D) (vs : List V), nlL ds = true → RepL B H ds vs → RepL B H' ds vs
  | [], _, _, h => h
  | d :: ds, _, n, ⟨v, r, e, h1, h2⟩ => ⟨v, r, e, Rep.nl s d v (by rw [nlL] at n; exact (Bool.and_eq_true_iff.mp n).1) h1, RepL.nl s ds r (by rw [nlL] at n; exact (Bool.and_eq_true_iff.mp n).2) h2⟩
end
end
section
variable {X : Cx} {Λ : Lx} {w : WX} {e : Expr}
def dPeekE (i : Nat) (t : DE) : DE := fun env q x => match env[i]? with
  | some (.ow ds) => t (env.set i (.va (.lst ds))) (fun d => d.nl = true ∧ q d) (fun _ => False)
  | _ => t env q x
theorem xe_peek (i : Nat) {t : DE} (h : XE X Λ w e t) : XE X Λ w e (dPeekE i t) := ⟨fun hK => by
  obtain ⟨r, p, s⟩ := h.ex hK
  refine ⟨r, p, fun env W σ H Q q x S hx h k => ?_⟩
  unfold dPeekE at h
  split at h
  · rename_i ds hd
    obtain ⟨S2, s2⟩ := S.freeze hd
    refine s _ _ σ H Q _ (fun _ => False) S2 (fun _ _ _ _ z => z.elim) h fun d v H' hq S' e' r' => ?_
    obtain ⟨hu, hq⟩ := hq
    obtain ⟨S3, e3⟩ := thaw S hd S' e'
    refine k d _ H' hq S3 e3 (Rep.nl (fun a o nl ha => ?_) d v hu r')
    obtain ⟨g, ha2⟩ := hid_some.mp ha
    refine hid_some.mpr ⟨?_, ha2⟩
    rintro (z | z | ⟨j, z⟩)
    · exact g (.inl z)
    · exact g (.inr (.inl z))
    · by_cases c : j = i
      · subst c
        obtain ⟨p, vs, h0, h1, h2, h3, h4⟩ := S3.sl j _ hd
        rw [h0] at z
        cases z
        rw [h2] at ha2
        cases ha2
        exact nl _ rfl
      · exact g (.inr (.inr ⟨j, by rw [wput_ne c]; exact z⟩))
  · exact s env W σ H Q q x S hx h k⟩
end
end Eb

namespace Eb
open PySem PySem.Spec PyProof.Rows L2
section
variable {X : Cx} {Λ : Lx} {w : WX} {a b : Expr} {t : DE} {u : DA} {pos : Pos}
def D.flt : D → Bool
  | .int _ => true
  | .str _ => true
  | .bl _ => true
  | .non => true
  | _ => false
theorem flt_rep {B : Tb} {H H' : Hp} {d : D} {v : V} (h : d.flt = true) (r : Rep B H d v) : Rep B H' d v := by
  cases d <;> first | (cases h; done) | exact r
def dParOV (i j : Nat) (u : DA) (t : DE) : DS := fun env e => u env (fun ds => t env (fun d => (i < env.length ∧ i ≠ j ∧ d.flt = true) ∧ e.nx ((env.set i (.ow ds)).set j (.va d))) (e.ex env)) (e.ex env)
theorem xs_parOV {i j : Nat} {x y : Str} {px py pt : Pos} {kt k2 pt2} (hc : X.calm = true) (hN : X.N.Nodup) (hi : X.N[i]? = some x) (hj : X.N[j]? = some y) (hij : i ≠ j)
    (hx : X.env.scope.names.lookup x = some .local) (hy : X.env.scope.names.lookup y = some .local) (ha : XL X Λ w a u) (hb : XE X Λ w b t)
    (hw : swappedStores [.Tuple [.Name x px, .Name y py] kt pt] (.Tuple [a, b] k2 pt2) X.env = pure (some [x, y]))
    (hs : swapsWithSole [.Tuple [.Name x px, .Name y py] kt pt] (.Tuple [a, b] k2 pt2) pos.line X.env = pure false := by rfl)
    (h1 : starEach [a, b] X.env = (false, eval a X.env) :: starEach [b] X.env := by rfl) (h2 : starEach [b] X.env = (false, eval b X.env) :: starEach [] X.env := by rfl) :
    XS X Λ w (.Assign [.Tuple [.Name x px, .Name y py] kt pt] (.Tuple [a, b] k2 pt2) pos) (dParOV i j u t) := ⟨fun hK => by
  obtain ⟨ra, pa, sa⟩ := ha.ex hK
  obtain ⟨rb, pb, sb⟩ := hb.ex hK
  refine ⟨_, ps_par hc hN hi hj hij hx hy (pa_cons pa (pa_cons pb pa_nil h2) h1) hw hs, fun env W σ H E e S L h => sa env W σ H _ _ _ S L.xok h fun ds p vs H1 q1 S1 e1 hp hq rp => sb env W σ H1 _ _ _ S1 (L.xok.on e1) q1 fun d v H2 q2 S2 e2 r2 => ?_⟩
  obtain ⟨⟨il, _, fl⟩, q2⟩ := q2
  refine ⟨.ref p, v, rfl, ?_⟩
  have vis1 : Λ.vis W H1 p = some (.lst vs) := hid_some.mpr ⟨S.fresh hp, hq⟩
  have hq2 : H2 p = some (.lst vs) := hid_le _ _ (e2.vis _ _ vis1)
  obtain ⟨S3, s3⟩ := S.putOwn (i := i) S2 (e1.trans e2) hp hq2 (rp.up (hid_same e2.vis)) il
  exact L.nx _ _ _ _ q2 (S3.put (i := j) (flt_rep fl r2)) s3⟩
end
end Eb

namespace Eb
open PySem PySem.Spec PyProof.Rows L2
set_option maxRecDepth 100000
end Eb

namespace Eb
open PySem PySem.Spec PyProof.Rows L2 StX
end Eb
namespace Eb
open PySem PySem.Spec PyProof.Rows L2
section
variable {X : Cx} {Λ : Lx} {w : WX} {a tg : Expr} {t : DE}
def iEither (K : PySem.W.Frag) (tl : TE) : TI := fun σ H R => tl σ H fun x H1 => ∃ p, x = .ref p ∧ (((∃ xs, SqL K H1 p xs) ∧ R (Itl K p) H1) ∨ ((∃ xs, SqT K H1 p xs) ∧ R (Itt K p) H1))
theorem pi_either {tl : TE} (hl : PE X a tl) : PI X tg a (iEither X.K tl) where
  run := fun pins s σ H R I h => thn (hl.run pins s σ H _ I h) fun v s1 ⟨x, H1, I1, r1, p, ex, q1⟩ => by
    subst ex
    cases r1
    have new : ∀ b ∈ [s1.heap.objs.size], FpOk X pins H1 b := fun b hb => (List.mem_singleton.mp hb) ▸ I1.fpOk (Nat.le_refl _) (I1.hok.fresh (Nat.le_refl _))
    rcases q1 with ⟨⟨xs, hq⟩, q⟩ | ⟨⟨xs, hq⟩, q⟩
    · obtain ⟨its, _, hl, _⟩ := I1.list hq
      exact wpAny_pyIter_list hl.isList ⟨_, [s1.heap.objs.size], _, _, H1, rfl, I1.kept (t' := s1.toks) fun b o e => Heap.get?_push_of_some _ e, turn_list p _, ⟨_, Heap.get?_push_size _ rfl, rfl, rfl⟩, new, q⟩
    · obtain ⟨its, _, hl, _⟩ := I1.tuple hq
      exact wpAny_pyIter_tuple (items := its.toArray) hl ⟨_, [s1.heap.objs.size], _, _, H1, rfl, I1.kept (t' := s1.toks) fun b o e => Heap.get?_push_of_some _ e, turn_tuple p _, ⟨_, Heap.get?_push_size _ rfl, rfl, rfl⟩, new, q⟩
def dItQ (t : DE) : DA := fun env q x => t env (fun d => match d with
  | .lst ds => q ds
  | .tup ds => q ds
  | _ => False) x
theorem xi_either (h : XE X Λ w a t) : XI X Λ w tg a (dItQ t) := ⟨fun hK => by
  obtain ⟨r, p, s⟩ := h.ex hK
  refine ⟨_, pi_either p, fun env W σ H R q x S hx hh k => s env W σ H _ _ x S hx hh fun d v H1 h1 S1 e1 r1 => ?_⟩
  cases d with
  | lst ds =>
    obtain ⟨p, vs, rfl, h2, r2⟩ := r1
    rw [hK]
    exact ⟨p, rfl, .inl ⟨⟨vs, sqL_of (hid_le _ _ h2)⟩, k ds _ H1 h1 S1 e1 (it_list h2 r2)⟩⟩
  | tup ds =>
    obtain ⟨p, vs, rfl, h2, r2⟩ := r1
    rw [hK]
    exact ⟨p, rfl, .inr ⟨⟨vs, Same_seqT hid_le h2⟩, k ds _ H1 h1 S1 e1 (it_tup h2 r2)⟩⟩
  | _ => exact h1.elim⟩
end
end Eb

namespace Eb
namespace TT
def dg (m : Nat) : List Nat := (Nat.toDigits 10 m).map Char.toNat
def isD (c : Nat) : Prop := 48 ≤ c ∧ c ≤ 57
theorem dg_D (m : Nat) : ∀ c ∈ dg m, isD c := fun c hc => by
  obtain ⟨ch, hch, e⟩ := List.mem_map.mp hc
  have h := Nat.isDigit_of_mem_toDigits (by decide) (by decide) hch
  rw [← e]
  simp only [Char.isDigit, Bool.and_eq_true, decide_eq_true_eq] at h
  exact ⟨h.1, h.2⟩
def Nd (s : List Nat) : Prop := ∀ c t, s = c :: t → ¬ isD c
inductive Stop : List Nat → Prop where
  | nil : Stop []
  | par (t : List Nat) : Stop (41 :: t)
  | blank (c : Nat) (t : List Nat) : c ≠ 98 → Stop (32 :: c :: t)
theorem Stop.nd {s : List Nat} (h : Stop s) : Nd s := by
  cases h with
  | nil => intro c t e; cases e
  | par t => intro c t e; cases e; unfold isD; omega
  | blank c t _ => intro c t e; cases e; unfold isD; omega
def ltr (k : Nat) : List Nat := if k = 1 then [98] else 98 :: 94 :: dg k
def pt (v k : Nat) : List Nat := if k = 0 then dg v else if v = 1 then ltr k else dg v ++ 32 :: ltr k
def sg (z : Int) : Nat := if z < 0 then 45 else 43
def tl : List (Int × Nat) → List Nat
  | [] => []
  | p :: ps => 32 :: sg p.1 :: 32 :: (pt p.1.natAbs p.2 ++ tl ps)
def hd (z : Int) : List Nat := if z < 0 then [45] else []
inductive End : List Nat → Prop where
  | nil : End []
  | par (t : List Nat) : End (41 :: t)
  | over (t : List Nat) : End (32 :: 47 :: t)
theorem End.stop {s : List Nat} (h : End s) : Stop s := by
  cases h with
  | nil => exact .nil
  | par t => exact .par t
  | over t => exact .blank _ _ (by omega)
def sl (o : Nat) : List Nat := 32 :: 47 :: 32 :: dg o
end TT
end Eb

namespace Eb
open PySem PySem.Spec PyProof.Rows L2
def tx (l : List Nat) : Str := ⟨l.toArray⟩
theorem tx_app (a b : List Nat) : tx a ++ tx b = tx (a ++ b) := by
  show (⟨a.toArray ++ b.toArray⟩ : Str) = ⟨(a ++ b).toArray⟩
  simp
theorem tx_len (a : List Nat) : (tx a).length = a.length := by
  show a.toArray.size = a.length
  simp
theorem tx_cps (a : List Nat) : (tx a).cps.toList = a := rfl
theorem tx_eq {a b : List Nat} (h : tx a = tx b) : a = b := congrArg (fun s : Str => s.cps.toList) h
theorem tx_of (s : Str) : s = tx s.cps.toList := rfl
theorem tx_beq (a b : List Nat) : (tx a == tx b) = decide (a = b) := by
  rw [Bool.eq_iff_iff]
  simp only [beq_iff_eq, decide_eq_true_eq]
  exact ⟨tx_eq, fun h => by rw [h]⟩
theorem tx_num (m : Nat) : (Str.ofString (toString ((m : Nat) : Int))) = tx (TT.dg m) := by
  rw [tx_of (Str.ofString _), PySem.W.KIN.signs_num]
  rfl
def joinL (s : List Nat) : List (List Nat) → List Nat
  | [] => []
  | [x] => x
  | x :: y :: r => x ++ s ++ joinL s (y :: r)
theorem tx_join (s : List Nat) : ∀ ls : List (List Nat), Txt.join (tx s) (ls.map tx) = tx (joinL s ls) := by
  intro ls
  unfold Txt.join
  rw [StrLaws.glued_eq_join]
  induction ls with
  | nil => rfl
  | cons x r ih =>
    cases r with
    | nil => rfl
    | cons y r =>
      show tx x ++ tx s ++ Str.join (tx s) ((y :: r).map tx) = _
      rw [ih, tx_app, tx_app]
      rfl
theorem dg_len {m k : Nat} (hk : 0 < k) (h : m < 10 ^ k) : (TT.dg m).length ≤ k := by
  unfold TT.dg
  rw [List.length_map]
  exact (Nat.length_toDigits_le_iff (by decide) hk).mpr h
end Eb

namespace Eb
open PySem PySem.Spec PyProof.Rows L2 StX
theorem calmR {P : Program} {w' : World} {K : PySem.W.Frag} {mg : Str → Option Value} {base : Heap} {f : Addr} {k : Nat} {B : Tb} {c : Nat} {wp : DWI} (F : FnR P w' K mg base (L2.CX P w') k f (spI B c wp)) : FnR P w' K mg base CX0 k f (spI0 B c wp) :=
  fun A outer s H us vs Q E hr he r ⟨Z, ds, q, p, dx, vr, e, z1, z2, z3, z4, z5, z6⟩ => codeAny_mono (F A outer s H us vs Q E0 hr he r ⟨Z, ds, q, fun _ => False, p, dx, vr, e, z1, z2, z3, z4, z5, z6, fun _ _ _ _ z => z.elim⟩) fun r s' hq => by
    cases r with
    | error e =>
      obtain ⟨_, _, _, _, _, _, _, _, _, _, _, _, z⟩ := hq
      exact z.elim
    | ok fl => cases fl <;> exact hq
def DfT (K : PySem.W.Frag) (dV : Value) (T2 : Addr) : Prop := (∃ T o m, dV = .ref T ∧ K.lookup T = some o ∧ o.data = .seq #[.ref T2] m) ∧ ∃ o2 m2, K.lookup T2 = some o2 ∧ o2.cls = .type "tuple" ∧ o2.data = .seq #[] m2
def wpDf (wp : DWI) : DWI := fun ds q x => wp ds q x ∨ wp (ds ++ [.tup []]) q x
section
variable {P : Program} {w' : World} {K : PySem.W.Frag} {mg : Str → Option Value} {base : Heap} {name qual : Str} {st : Stmt} {f f2 : Addr} {fd2 : FuncData} {N ps ps2 : List Str} {pv : Str} {k : Nat} {B : Tb} {pre post : List Stmt} {a : Expr} {es : List Expr} {t1 t2 : DS} {u : DA} {c nf n m : Nat} {wp2 : DWS}
def BindDf (K : PySem.W.Frag) (name qual : Str) (st : Stmt) (ps : List Str) : Prop :=
  ∀ (clo : List (Str × Addr)) (dV kV doc pm : Value) (an : Option Addr) (cdv ct : Value) (T2 : Addr), DfT K dV T2 → Binds K (HK.fnC name qual st clo dV kV doc pm an cdv ct) ps [.ref T2]
theorem bindDf (h : ∀ (clo : List (Str × Addr)) (T : Addr) (kV doc pm : Value) (an : Option Addr) (cdv ct : Value) (T2 : Addr) (us : List Value), us.length + 1 = ps.length → ∃ k, bindArgs (HK.fnC name qual st clo (.ref T) kV doc pm an cdv ct) ⟨us, []⟩ = seqItems? (.ref T) >>= k ∧ k (some #[.ref T2]) = pure (ps.zip (us ++ [.ref T2]))) : BindDf K name qual st ps := fun clo dV kV doc pm an cdv ct T2 hD => by
  obtain ⟨⟨T, o, m, rfl, lT, oT⟩, _⟩ := hD
  intro s us X hl
  rw [List.length_append] at hl
  obtain ⟨k, e1, e2⟩ := h clo T kV doc pm an cdv ct T2 us hl
  refine BindsTo.of_looks fun M => ?_
  rw [e1]
  exact looks_items X lT oT (.of_pure e2)
theorem df_split {dV : Value} {T2 : Addr} {wp : DWI} {vs : List V} {H : Hp} {Q : VK} {E : XK} (hT : DfT B.K dV T2) (h : spI B c (wpDf wp) vs H Q E) : spI B c wp vs H Q E ∨ spI B c wp (vs ++ [.ref T2]) H Q E := by
  obtain ⟨Z, ds, q, x, p, dx, vr, e, hp, hz, hZ, r, hw, kq, kx⟩ := h
  subst e
  rcases hw with hw | hw
  · exact .inl ⟨Z, ds, q, x, p, dx, vr, rfl, hp, hz, hZ, r, hw, kq, kx⟩
  · obtain ⟨_, o2, m2, l2, c2, d2⟩ := hT
    have rt : Rep B (hid (fun a => Z a ∨ a = p) H) (.tup []) (.ref T2) := by
      unfold Rep
      exact ⟨T2, [], rfl, .inr ⟨o2, #[], m2, l2, c2, d2, Nat.zero_le _, .nil⟩, rfl⟩
    exact .inr ⟨Z, ds ++ [.tup []], q, x, p, dx, vr ++ [.ref T2], rfl, hp, hz, hZ, r.app (.one rt), hw, kq, kx⟩
end
namespace HK
theorem dft_ok {K : Fg} {a T2 : Addr} (h : dftB K a T2 = true) {oc : Value} {od : Option Addr} {fd : FuncData} {osl : Array (Option Value)} (l : K.lookup a = some ⟨oc, od, .func fd, osl⟩) : DfT K fd.defaults T2 := by
  unfold dftB at h
  rw [l] at h
  dsimp only at h
  obtain ⟨h1, h2⟩ := ba h
  constructor
  · split at h1
    · rename_i T e
      split at h1
      · rename_i e2
        exact ⟨T, _, _, e, e2, by rw [of_decide_eq_true h1]⟩
      · cases h1
    · cases h1
  · split at h2
    · rename_i e2
      obtain ⟨h3, h4⟩ := ba h2
      exact ⟨_, _, e2, of_decide_eq_true h3, by rw [of_decide_eq_true h4]⟩
    · cases h2
end HK
end Eb

namespace SStr
open PySem PySem.Spec PyProof.Rows L2 PySem.Froz
def SetS (P : Program) (w : World) (h : Heap) (a : Addr) (l : List Str) : Prop :=
  ∃ D : SD, h.get? a = some (sObj "set" D) ∧ TxOk P w D l ∧ (D.1.toList.map fun e => strOf e.2).Perm l ∧ Ris D.2.2.place.toList ∧ (w.params.followText "set-order" = true ∨ D.2.2.led = true)
def put (k : Str) (l : List Str) : List Str := if k ∈ l then l else k :: l
theorem put_len (k : Str) (l : List Str) : (put k l).length ≤ l.length + 1 := by
  unfold put
  split
  · exact Nat.le_succ _
  · exact Nat.le_refl _
section
variable {P : Program} {w : World} {A : Around} {E : Value → Shared → Prop} {s : Shared} {a : Addr} {l : List Str}
theorem SetS.at {h h' : Heap} (R : SetS P w h a l) (k : ∀ o, h.get? a = some o → h'.get? a = some o) : SetS P w h' a l := by
  obtain ⟨D, e, r⟩ := R
  exact ⟨D, k _ e, r⟩
theorem tail_ris {ep : Nat} {es : Array (Int × Value)} {t : SetTable} {b : Bool} (h : Ris t.place.toList) : Ris (tailTx ep es t b).2.2.place.toList := by
  unfold tailTx
  split
  · exact relayAll_ris t es _
  · exact h
theorem tail_led {ep : Nat} {es : Array (Int × Value)} {t : SetTable} {b : Bool} : (tailTx ep es t b).2.2.led = t.led := by
  unfold tailTx
  split
  · exact relayAll_led t es _
  · rfl
theorem add_ris {h : Int} {v : Value} {D : SD} (r : Ris D.2.2.place.toList) : Ris (addTx h v D).2.2.place.toList := by
  unfold addTx
  refine tail_ris ?_
  have := layNew_ris D.2.2 D.1 h v r
  split <;> exact this
theorem add_led {h : Int} {v : Value} {D : SD} : (addTx h v D).2.2.led = D.2.2.led := by
  unfold addTx
  rw [tail_led]
  have := layNew_led D.2.2 D.1 h v
  split <;> exact this
theorem tail_perm {ep : Nat} {es : Array (Int × Value)} {t : SetTable} {b : Bool} : (tailTx ep es t b).1.toList.Perm es.toList := by
  unfold tailTx
  split
  · exact relayAll_perm t es _
  · exact .refl _
theorem add_perm {h : Int} {v : Value} {D : SD} : (addTx h v D).1.toList.Perm (D.1.push (h, v)).toList := by
  unfold addTx
  exact tail_perm.trans (layNew_perm D.2.2 D.1 h v)
theorem add_old {D : SD} {k : Str} {u : Tok} {Q : Bool → Shared → Prop} (ho : s.heap.get? a = some (sObj "set" D)) (F : TxOk P w D l) (hk : k ∈ l) (hb : l.length < scanBound) (h : Q false s) : wpAny (model P w) A (setAddHashed a (.str k u) (hashStr w k)) Q E s := by
  obtain ⟨es, ep, t⟩ := D
  have hd : (sObj "set" (es, ep, t)).data = .set es ep t := rfl
  have hf : t.fits es.size = true := F.fit
  have hel : ElemsOf (strKind P w) es.toList := F.el
  have hsz : es.size = l.length := F.sz
  have hkey : (strKind P w).is k (.str k u) = true := is_str k u
  obtain ⟨e, he, q⟩ := (F.mem k).mp hk
  unfold setAddHashed setAddHashedIn
  refine wpAny_holding (wpAny_bind (wpAny_setState_of ho hd hf ?_))
  dsimp only
  rw [byScan_of rfl (by omega) hel]
  simp only [↓reduceIte]
  unfold setAddByScan
  refine wpAny_bind ?_
  refine wpAny_bind (wpAny_rule ?_)
  refine wpAny_bind (wpAny_setScan_of (knd := strKind P w) (k := k) hkey ho hd hf hel ?_)
  cases hfi : List.findIdx? (fun e => (strKind P w).is k e.2) es.toList with
  | none =>
    have c := List.findIdx?_eq_none_iff.mp hfi e he
    rw [q] at c
    cases c
  | some j =>
    dsimp only
    exact wpAny_pure (wpAny_pure h)
theorem add_strs {h : Int} {k : Str} {u : Tok} {D : SD} (p : (D.1.toList.map fun e => strOf e.2).Perm l) : ((addTx h (.str k u) D).1.toList.map fun e => strOf e.2).Perm (k :: l) := by
  refine (add_perm.map _).trans ?_
  rw [Array.toList_push, List.map_append]
  exact (List.perm_append_singleton _ _).trans (p.cons k)
theorem setS_add {k : Str} {u : Tok} {Q : Value → Shared → Prop} (R : SetS P w s.heap a l) (room : l.length + 1 < scanBound)
    (hQ : ∀ h', Heap.SameBut a s.heap h' → SetS P w h' a (put k l) → Q .none { s with heap := h', toks := s.toks + 1 }) :
    wpAny (model P w) A (call (.builtin "set.add") [.ref a, .str k u]) Q E s := by
  obtain ⟨D, ho, T, nd, hr, hl⟩ := R
  refine wpAny_call_entry F.slot_set_add ⟨_, ho, rfl⟩ F.entry_set_add ?_ (F.args_set_add_2 _ _)
  unfold Builtin.«set.add» Builtin.Frozenset.oneOther
  simp only [List.isEmpty_nil, bind_assoc]
  unfold Builtin.Frozenset.addrOf setAdd
  refine wpAny_bind (wpAny_pure ?_)
  try dsimp only
  refine wpAny_bind (wpAny_pure ?_)
  try dsimp only
  refine wpAny_bind ?_
  refine wpAny_holding ?_
  refine wpAny_bind ((strKind P w).pyHash (k := k) (is_str k u) ?_)
  unfold put at hQ
  by_cases hk : k ∈ l
  · rw [if_pos hk] at hQ
    refine add_old (s := { s with toks := s.toks + 1 }) ho T hk (by omega) ?_
    show wpAny _ _ (ret Value.none) _ _ _
    exact wpAny_pure ⟨_, rfl, hQ s.heap (Heap.SameBut.refl a s.heap) ⟨D, ho, T, nd, hr, hl⟩⟩
  · rw [if_neg hk] at hQ
    refine add_x (s := { s with toks := s.toks + 1 }) ho T hk room ?_
    show wpAny _ _ (ret Value.none) _ _ _
    exact wpAny_pure ⟨_, rfl, hQ _ (Heap.SameBut.update s.heap a _) ⟨_, get_upd _ ho rfl, add_ok u T, add_strs nd, add_ris hr, hl.imp id fun z => by rw [add_led]; exact z⟩⟩
theorem setS_fresh (P : Program) (w : World) {h : Heap} : SetS P w (h.push { cls := .type "set", dict := none, data := .set #[] 0 (.fresh 0 0 (!w.params.followText "set-order")) }) h.objs.size [] :=
  ⟨(#[], 0, _), Heap.get?_push_size _ rfl, TxOk.nil rfl, .nil, List.Pairwise.nil, by
    show _ ∨ (!w.params.followText "set-order") = true
    cases w.params.followText "set-order"
    · exact .inr rfl
    · exact .inl rfl⟩
end
def SetSO (P : Program) (w : World) (a : Addr) (l : List Str) : HO := .ext fun h => SetS P w h a l
theorem setSO_new {P : Program} {w : World} {H : Hp} {h : Heap} {a : Addr} {l : List Str} (R : SetS P w h a l) : ObjOk P w H h a (SetSO P w a l) := by
  have ⟨_, ho, _⟩ := R
  exact ⟨R, ⟨_, ho⟩, fun h1 h2 p k => SetS.at p k⟩
section
variable {X : Cx}
theorem setSO_get {pins : List (Addr × Obj)} {σ : L2.St} {H : Hp} {s : Shared} {a : Addr} {l : List Str} (I : Inv X pins σ H s) (ha : H a = some (SetSO X.prog X.w a l)) : SetS X.prog X.w s.heap a l := (I.hok a _ ha).1
theorem addS_ok {pins : List (Addr × Obj)} {σ : L2.St} {H : Hp} {s : Shared} {E : Value → Shared → Prop} {D : Addr} {l : List Str} {k : Str} {u : Tok} {Q : Value → Shared → Prop} (I : Inv X pins σ H s) (hD : H D = some (SetSO X.prog X.w D l)) (room : l.length + 1 < scanBound)
    (h : ∀ s', Inv X pins σ (upd H D (SetSO X.prog X.w D (put k l))) s' → Q .none s') : wpAny (model X.prog X.w) X.A (call (.builtin "set.add") [.ref D, .str k u]) Q E s := by
  refine setS_add (setSO_get I hD) room fun h' sb new => ?_
  have he : ∃ u, h'.get? D = some u := by
    have ⟨_, ho, _⟩ := new
    exact ⟨_, ho⟩
  exact h _ (I.write (e := D) (t' := s.toks + 1) (by rw [hD]; trivial) (.inl rfl) (fun b u hb hu => (sb.2 b hb).trans hu) he (setSO_new new))
end
abbrev two2 (elt t0 i0 t1 i1 : Expr) (scope : Scope) (pos : Pos) : Expr := .SetComp elt [⟨t0, i0, [], 0⟩, ⟨t1, i1, [], 0⟩] scope pos
theorem turn_out (elt t0 i0 t1 i1 : Expr) (scope : Scope) (pos : Pos) (it acc : Value) (env : Env) :
    compTurn (two2 elt t0 i0 t1 i1 scope pos) 0 it acc env = (do
      standAt i0.pos
      match ← pyNext it with
      | none => pure (.done .next)
      | some v =>
        letOwnedTupleGo t0 it v
        assign t0 env v
        let x ← eval i1 env
        standAt i1.pos
        let x ← foldedSetIterable i1 env x
        let _ ← runOwn (.compStart (two2 elt t0 i0 t1 i1 scope pos) 1 (← holding [x] (pyIter x)) acc env) env
        again (.compLoop (two2 elt t0 i0 t1 i1 scope pos) 0 it acc env)) := by rfl
theorem turn_in (elt t0 i0 t1 i1 : Expr) (scope : Scope) (pos : Pos) (it acc : Value) (env : Env) :
    compTurn (two2 elt t0 i0 t1 i1 scope pos) 1 it acc env = (do
      standAt i1.pos
      match ← pyNext it with
      | none => pure (.done .next)
      | some v =>
        letOwnedTupleGo t1 it v
        assign t1 env v
        (do let v ← eval elt env; standAt elt.pos; let _ ← call (.builtin "set.add") [acc, v])
        again (.compLoop (two2 elt t0 i0 t1 i1 scope pos) 1 it acc env)) := by rfl
section
variable {prog : Program} {w : World} {A : Around} {R : Result → Shared → Prop} {s : Shared} {elt t0 i0 t1 i1 : Expr} {scope : Scope} {pos : Pos} {it acc : Value} {env : Env}
abbrev NoX : Value → Shared → Prop := fun _ _ => False
theorem loop_out (hs : ∀ x, foldedSetIterable i1 env x = pure x) (I : Nat → Shared → Prop)
    (turn : ∀ n s, I n s → wpAny (model prog w) A (pyNext it) (fun r s1 => match r with
      | none => R (.ok .next) s1
      | some v => wpAny (model prog w) A (letOwnedTupleGo t0 it v) (fun _ s2 => wpAny (model prog w) A (assign t0 env v) (fun _ s3 => wpAny (model prog w) A (eval i1 env) (fun x s4 => wpAny (model prog w) A (pyIter x) (fun it1 s5 =>
          codeAny (model prog w) A (.compStart (two2 elt t0 i0 t1 i1 scope pos) 1 it1 acc env) (fun r s' => match r with
            | .ok _ => ∃ m, m < n ∧ I m s'
            | .error _ => False) s5) NoX s4) NoX s3) NoX s2) NoX s1) NoX s)
    (n : Nat) (h : I n s) : codeAny (model prog w) A (.compLoop (two2 elt t0 i0 t1 i1 scope pos) 0 it acc env) R s := by
  refine codeAny_loop rfl I (fun n s hI => ?_) n h
  show wpAny _ A ((compTurn (two2 elt t0 i0 t1 i1 scope pos) 0 it acc env).onRaise (fun x => do noteFrame x env; theTreesLotGoes x)) _ _ s
  refine wpAny_noted ?_
  rw [turn_out]
  refine wpAny_bind (wpAny_standAt (wpAny_bind (thnF (turn n s hI) fun r s1 h1 => ?_)))
  cases r with
  | none => exact wpAny_pure h1
  | some v =>
    refine wpAny_bind (thnF h1 fun _ s2 h2 => wpAny_bind (thnF h2 fun _ s3 h3 => wpAny_bind (thnF h3 fun x s4 h4 => ?_)))
    refine wpAny_bind (wpAny_standAt (wpAny_bind (wpAny_of_eq (hs x) (wpAny_bind (wpAny_holding (thnF h4 fun it1 s5 h5 => ?_))))))
    refine wpAny_bind (wpAny_runOwn ?_)
    rw [Around.mark_none]
    refine codeAny_mono h5 fun r s' hr => ?_
    cases r with
    | ok f => exact wpAny_pure ⟨rfl, hr⟩
    | error e => exact hr.elim
theorem loop_in (I : Nat → Shared → Prop)
    (turn : ∀ n s, I n s → wpAny (model prog w) A (pyNext it) (fun r s1 => match r with
      | none => R (.ok .next) s1
      | some v => wpAny (model prog w) A (letOwnedTupleGo t1 it v) (fun _ s2 => wpAny (model prog w) A (assign t1 env v) (fun _ s3 => wpAny (model prog w) A (eval elt env) (fun x s4 =>
          wpAny (model prog w) A (call (.builtin "set.add") [acc, x]) (fun _ s5 => ∃ m, m < n ∧ I m s5) NoX s4) NoX s3) NoX s2) NoX s1) NoX s)
    (n : Nat) (h : I n s) : codeAny (model prog w) A (.compLoop (two2 elt t0 i0 t1 i1 scope pos) 1 it acc env) R s := by
  refine codeAny_loop rfl I (fun n s hI => ?_) n h
  show wpAny _ A ((compTurn (two2 elt t0 i0 t1 i1 scope pos) 1 it acc env).onRaise (fun x => do noteFrame x env; theTreesLotGoes x)) _ _ s
  refine wpAny_noted ?_
  rw [turn_in]
  refine wpAny_bind (wpAny_standAt (wpAny_bind (thnF (turn n s hI) fun r s1 h1 => ?_)))
  cases r with
  | none => exact wpAny_pure h1
  | some v =>
    refine wpAny_bind (thnF h1 fun _ s2 h2 => wpAny_bind (thnF h2 fun _ s3 h3 => ?_))
    refine wpAny_bind (wpAny_bind (thnF h3 fun x s4 h4 => ?_))
    exact wpAny_bind (wpAny_standAt (wpAny_bind (thnF h4 fun _ s5 h5 => wpAny_pure (wpAny_pure ⟨rfl, h5⟩))))
theorem start_in (h0 : codeAny (model prog w) A (.compLoop (two2 elt t0 i0 t1 i1 scope pos) 1 it acc env) R s)
    (h : wpAny (model prog w) A (pyIter it) (fun it' s' => codeAny (model prog w) A (.compLoop (two2 elt t0 i0 t1 i1 scope pos) 1 it' acc env) R s') (notedBy (model prog w) A env fun x s' => R (.error x) s') s) :
    codeAny (model prog w) A (.compStart (two2 elt t0 i0 t1 i1 scope pos) 1 it acc env) R s := by
  refine codeAny_of_tree ?_
  show wpAny _ _ ((compStart (two2 elt t0 i0 t1 i1 scope pos) 1 it acc env).onRaise (fun x => do noteFrame x env; standAt theWindowsPlace)) _ _ s
  refine wpAny_notedAt ?_
  unfold compStart
  show wpAny _ _ (ask >>= _) _ _ s
  refine wpAny_bind (wpAny_askSetting (wpAny_ite ?_))
  split
  · first
      | exact wpAny_bind (wpAny_pure (wpAny_pure (And.intro rfl h0)))
      | exact wpAny_pure (And.intro rfl h0)
  · first
      | exact wpAny_bind (wpAny_rule (wpAny_bind (wpAny_standAt (wpAny_bind (wpAny_mono h (fun it' s' h' => wpAny_pure (And.intro rfl h')) fun _ _ x => x)))))
      | (refine wpAny_bind (wpAny_rule ?_); show wpAny _ _ (standAt i1.pos >>= _) _ _ s; exact wpAny_bind (wpAny_standAt (wpAny_bind (wpAny_mono h (fun it' s' h' => wpAny_pure (And.intro rfl h')) fun _ _ x => x))))
end
section
variable {X : Cx}
def tSc2 (P : Program) (w : World) (wi : TI) (g : TG) (wi1 : TI) (g1 : TG) (te : TE) (vs vs1 : List Nat) : TE := fun σ H Q => wi σ H fun J H1 => ∀ D, H1 D = none → ∃ W : Nat → Nat → Hp → Prop, (∃ m, W 0 m (upd H1 D (SetSO P w D []))) ∧ ∀ i m H, W i m H →
  (J.stop i H ∧ Q (.ref D) H) ∨ (J.go i H ∧ ∃ Nx : Hp → Prop, (∀ H', Nx H' → ∃ m', m' < m ∧ W (i + 1) m' H') ∧ ∀ x H', J.yld i H x H' → g x (wipe σ vs) H' fun σ2 H2 => wipe σ2 vs = wipe σ vs ∧
    wi1 σ2 H2 fun J1 H4 => ∃ W1 : Nat → Nat → Hp → Prop, (∃ m, W1 0 m H4) ∧ ∀ j k H, W1 j k H →
      (J1.stop j H ∧ Nx H) ∨ (J1.go j H ∧ ∃ Nx1 : Hp → Prop, (∀ H', Nx1 H' → ∃ k', k' < k ∧ W1 (j + 1) k' H') ∧ ∀ x H', J1.yld j H x H' → g1 x (wipe σ2 vs1) H' fun σ3 H5 => wipe σ3 vs1 = wipe σ2 vs1 ∧
        te σ3 H5 fun y H7 => ∃ (k : Str) (l : List Str), y = .str k ∧ H7 D = some (SetSO P w D l) ∧ l.length + 1 < scanBound ∧ Nx1 (upd H7 D (SetSO P w D (put k l)))))
theorem sc2_core {pins : List (Addr × Obj)} {s : Shared} {σ : L2.St} {H : Hp} {Q : VK} {elt tg iter tg1 iter1 : Expr} {scope : Scope} {own : List (Str × Nat)} {vs1 : List Nat} {pos pos' : Pos} {wi wi1 : TI} {g g1 : TG} {te : TE} {use : Option (Value → Sem Unit)} {Qf : Value → Shared → Prop}
    (hc : X.calm = true) (hN : X.N.Nodup) (I : Inv X pins σ H s) (hi : PI X tg iter wi) (ok : BlkOk X.N X.env.scope scope own) (hv : ∀ i ∈ vs1, i ∈ own.map (·.2))
    (hg : ∀ (s : Shared) (H : Hp) (C : Addr) (cl : List (Str × Addr)) (fp : List Addr), PG (X.blk s H scope (compEnvC scope cl C X.env) fp) tg g)
    (hi1 : ∀ (s : Shared) (H : Hp) (C : Addr) (cl : List (Str × Addr)) (fp : List Addr), PI (X.blk s H scope (compEnvC scope cl C X.env) fp) tg1 iter1 wi1)
    (hg1 : ∀ (s : Shared) (H : Hp) (C : Addr) (cl : List (Str × Addr)) (fp : List Addr), PG (X.blk s H scope (compEnvC scope cl C X.env) fp) tg1 g1)
    (he : ∀ (s : Shared) (H : Hp) (C : Addr) (cl : List (Str × Addr)) (fp : List Addr), PE (X.blk s H scope (compEnvC scope cl C X.env) fp) elt te)
    (hs : ∀ x, foldedSetIterable iter X.env x = pure x) (hs1 : ∀ env x, foldedSetIterable iter1 env x = pure x)
    (h : tSc2 X.prog X.w wi g wi1 g1 te (own.map (·.2)) vs1 σ H Q)
    (hRR : ∀ D C s' m H', Inv X pins σ H' s' → Q (.ref D) H' → s'.heap.Ns C m → FpOk X pins H' C → compPost (model X.prog X.w) X.A X.xe use Qf (.ref D) C (.ok .next) s') :
    wpAny (model X.prog X.w) X.A (comprehension (two2 elt tg iter tg1 iter1 scope pos) scope X.env pos' (newSet (.type "set")) false (eval iter X.env) use) Qf X.xe s := by
  have hfree : ∀ y ∈ scope.names, y.2 = .free → ∃ c, X.env.cells.lookup y.1 = some c := fun y hy e => (ok.free y hy e).elim (fun k => I.ok.has _ (.inl k)) fun k => I.ok.has _ (.inr k)
  refine wpAny_comprehension_free (use := use) rfl hs (closure_ok hfree) ok.kind (fun y hy e => by rw [ok.uniq y hy, e]) (thn (hi.run pins s σ H _ I h) fun xv s1 hx => thn hx fun itv s2 h2 => ?_)
  obtain ⟨it, fp, tn, J, H2, e, I2, T, st2, f2, q⟩ := h2
  subst e
  refine PpSet.newSet_ok (newEnv_comp ?_)
  generalize hD : s2.heap.objs.size = D
  obtain ⟨W, ⟨m0, w0⟩, turn⟩ := q D (I2.hok.fresh (Nat.le_of_eq hD))
  generalize hs3 : ({ s2 with heap := s2.heap.push { cls := .type "set", dict := none, data := .set #[] 0 (.fresh 0 0 (!X.w.params.followText "set-order")) } } : Shared) = s3
  have I3 : Inv X pins σ (upd H2 D (SetSO X.prog X.w D [])) s3 := by
    rw [← hs3]
    refine I2.laid (t' := s2.toks) (fun b o e => Heap.get?_push_of_some _ e) (Nat.le_of_eq hD) ?_
    rw [← hD]
    exact setSO_new (setS_fresh X.prog X.w)
  have h3 : s3.heap = s2.heap.push { cls := .type "set", dict := none, data := .set #[] 0 (.fresh 0 0 (!X.w.params.followText "set-order")) } := by rw [← hs3]
  have f3 : ∀ b ∈ fp, FpOk X pins (upd H2 D (SetSO X.prog X.w D [])) b ∧ b < s3.heap.objs.size := fun b hb => by
    obtain ⟨o, e, _⟩ := T.obj _ _ st2 b hb
    have hlt := Heap.lt_size e
    refine ⟨⟨?_, (f2 b hb).2⟩, by rw [h3, Heap.size_push]; exact Nat.lt_succ_of_lt hlt⟩
    rw [upd_ne (by rw [← hD]; exact Nat.ne_of_lt hlt)]
    exact (f2 b hb).1
  have st3 : tn 0 s3.heap := T.keep _ _ _ st2 fun b _ o e => by rw [h3]; exact Heap.get?_push_of_some _ e
  have I4 := block_start I3 ok hN f3
  generalize hH3 : upd H2 D (SetSO X.prog X.w D []) = H3 at I3 I4 w0 f3
  have nfp : ∀ b ∈ fp, H3 b = none := fun b hb => (f3 b hb).1.1
  have pg := hg s3 H3 s3.heap.objs.size (cellsFrom (s3.heap.objs.size + 1) scope.names (cloFrom X.env.cells scope.names [])) fp
  have pe := he s3 H3 s3.heap.objs.size (cellsFrom (s3.heap.objs.size + 1) scope.names (cloFrom X.env.cells scope.names [])) fp
  have pi1 := hi1 s3 H3 s3.heap.objs.size (cellsFrom (s3.heap.objs.size + 1) scope.names (cloFrom X.env.cells scope.names [])) fp
  have pg1 := hg1 s3 H3 s3.heap.objs.size (cellsFrom (s3.heap.objs.size + 1) scope.names (cloFrom X.env.cells scope.names [])) fp
  show codeAny _ _ (.compStart (two2 elt tg iter tg1 iter1 scope pos) 0 (.ref it) (.ref D) (compEnvC scope (cellsFrom (s3.heap.objs.size + 1) scope.names (cloFrom X.env.cells scope.names [])) s3.heap.objs.size X.env)) (compPost (model X.prog X.w) X.A X.xe use Qf (.ref D) s3.heap.objs.size) { s3 with heap := pushCells (s3.heap.push { cls := .type "dict", data := .dict #[] }) scope.names }
  generalize hce : compEnvC scope (cellsFrom (s3.heap.objs.size + 1) scope.names (cloFrom X.env.cells scope.names [])) s3.heap.objs.size X.env = ce at I4 pg pe pi1 pg1 ⊢
  have cL : ce.locals = s3.heap.objs.size := by subst hce; rfl
  generalize hs4 : ({ s3 with heap := pushCells (s3.heap.push { cls := .type "dict", data := .dict #[] }) scope.names } : Shared) = s4 at I4 ⊢
  have st4 : tn 0 s4.heap := T.keep _ _ _ st3 fun b _ o e => by rw [← hs4]; exact pushCells_keeps _ _ _ _ (Heap.get?_push_of_some _ e)
  have stat : ∀ {σ' : L2.St} {H' : Hp} {s' : Shared}, Inv (X.blk s3 H3 scope ce fp) [] σ' H' s' → (∀ b ∈ fp, H' b = none) → ∀ b ∈ fp, FpOk (X.blk s3 H3 scope ce fp) [] H' b := fun I' hn b hb =>
    ⟨hn b hb, (I'.ok.exf b hb).1, I'.ok.exfs b hb, .inl hb, fun x c e => (I'.ok.exf b hb).2 x c e, fun p hp => absurd (show p ∈ ([] : List (Addr × Obj)) ++ [] from hp) (by simp)⟩
  have loop : codeAny (model X.prog X.w) X.A (.compLoop (two2 elt tg iter tg1 iter1 scope pos) 0 (.ref it) (.ref D) ce) (compPost (model X.prog X.w) X.A X.xe use Qf (.ref D) s3.heap.objs.size) s4 := by
    refine loop_out (hs1 ce) (fun n s' => ∃ i H', Inv (X.blk s3 H3 scope ce fp) [] (wipe σ (own.map (·.2))) H' s' ∧ tn i s'.heap ∧ (∀ b ∈ fp, H' b = none) ∧ W i n H') ?_ m0 ⟨0, H3, I4, st4, nfp, w0⟩
    rintro n s5 ⟨i, H5, I5, st5, n5, w5⟩
    rcases turn i n H5 w5 with ⟨stop, qq⟩ | ⟨go, Nx, hNx, step⟩
    · refine thnF (T.done (X.blk s3 H3 scope ce fp) rfl rfl rfl hc i [] s5 _ H5 (fun _ _ => False) I5 (stat I5 n5) st5 stop) fun r s6 ⟨hr, I6⟩ => ?_
      subst hr
      have I7 : Inv X pins σ H5 s6 := I3.call' (ch := fp) I6.os I6.base I6.hok I6.bare fun b hb => ⟨(f3 b hb).1.2.2.2.1, (f3 b hb).1.2.1, (f3 b hb).1.2.2.2.2.1, (f3 b hb).1.2.2.2.2.2⟩
      have nC : H5 s3.heap.objs.size = none := cL ▸ I6.free
      obtain ⟨m, hn, _⟩ := I6.loc
      have hn : s6.heap.Ns ce.locals m := hn
      rw [cL] at hn
      exact hRR D s3.heap.objs.size s6 m H5 I7 qq hn (I3.fpOk (Nat.le_refl _) nC)
    · refine thnF (T.item (X.blk s3 H3 scope ce fp) rfl rfl rfl hc i [] s5 _ H5 (fun _ _ => False) I5 (stat I5 n5) st5 go) fun r s6 ⟨u, hr, h6⟩ => ?_
      subst hr
      refine thnF h6 fun _ s7 ⟨x, H7, I7, r7, y7, st7, n7⟩ => ?_
      have I7' := I7.pinned (stat I7 n7) (T.obj _ _ st7)
      refine thnF (pg.run _ s7 _ H7 x u _ I7' r7 (step x H7 y7)) fun _ s8 ⟨σ8, H8, I8, hw8, q8⟩ => ?_
      have hl8 : (wipe σ (own.map (·.2))).length = σ8.length := by rw [← hw8, wipe_length]
      have hk9 : ∀ (j : Nat) v, (wipe σ (own.map (·.2)))[j]? = some (some v) → (wipe σ8 vs1)[j]? = some (some v) := fun j v e => by
        rw [← hw8] at e
        obtain ⟨e1, e2⟩ := wipe_some e
        rw [wipe_out fun z => e2 (hv j z)]
        exact e1
      -- back in the outer loop
      have fin : ∀ {s' : Shared} {H' : Hp}, Inv (X.blk s3 H3 scope ce fp) ([] ++ pinsAt fp s7.heap) (wipe σ8 vs1) H' s' → Nx H' →
          ∃ m, m < n ∧ ∃ i H', Inv (X.blk s3 H3 scope ce fp) [] (wipe σ (own.map (·.2))) H' s' ∧ tn i s'.heap ∧ (∀ b ∈ fp, H' b = none) ∧ W i m H' := fun {s' H'} I' nx => by
        obtain ⟨m', hm, w'⟩ := hNx H' nx
        have pin' : ∀ b ∈ fp, ∀ o, s7.heap.get? b = some o → s'.heap.get? b = some o ∧ H' b = none := fun b hb o e =>
          let z := I'.pin (b, o) (List.mem_append_right _ (List.mem_append_right _ (mem_pinsAt hb e)))
          ⟨z.1, z.2.1⟩
        refine ⟨m', hm, i + 1, H', (I'.unpinned (pins := [])).weak (hl8.trans (wipe_length σ8 vs1).symm) hk9, T.keep _ _ _ st7 fun b hb o e => (pin' b hb o e).1, fun b hb => ?_, w'⟩
        obtain ⟨o, e, _⟩ := T.obj _ _ st7 b hb
        exact (pin' b hb o e).2
      refine thnF (pi1.run _ s8 σ8 H8 _ I8 q8) fun xv s10 hx => thnF hx fun itv s11 h11 => ?_
      obtain ⟨it1, fp1, tn1, J1, H11, e1, I11, T1, st11, f11, W1, ⟨m1, w1⟩, turn1⟩ := h11
      subst e1
      have stat1 : ∀ {H' : Hp}, (∀ b ∈ fp1, H' b = none) → ∀ b ∈ fp1, FpOk (X.blk s3 H3 scope ce fp) ([] ++ pinsAt fp s7.heap) H' b := fun hn b hb => ⟨hn b hb, (f11 b hb).2⟩
      have loop1 : codeAny (model X.prog X.w) X.A (.compLoop (two2 elt tg iter tg1 iter1 scope pos) 1 (.ref it1) (.ref D) ce)
          (fun r s' => match r with
            | .ok _ => ∃ m, m < n ∧ ∃ i H', Inv (X.blk s3 H3 scope ce fp) [] (wipe σ (own.map (·.2))) H' s' ∧ tn i s'.heap ∧ (∀ b ∈ fp, H' b = none) ∧ W i m H'
            | .error _ => False) s11 := by
        refine loop_in (fun k s' => ∃ j H', Inv (X.blk s3 H3 scope ce fp) ([] ++ pinsAt fp s7.heap) (wipe σ8 vs1) H' s' ∧ tn1 j s'.heap ∧ (∀ b ∈ fp1, H' b = none) ∧ W1 j k H') ?_ m1 ⟨0, H11, I11.weak (wipe_length _ _) (fun j v e => (wipe_some e).1), st11, fun b hb => (f11 b hb).1, w1⟩
        rintro k s12 ⟨j, H12, I12, st12, n12, w12⟩
        rcases turn1 j k H12 w12 with ⟨stop1, nx1⟩ | ⟨go1, Nx1, hNx1, step1⟩
        · refine thnF (T1.done (X.blk s3 H3 scope ce fp) rfl rfl rfl hc j _ s12 (wipe σ8 vs1) H12 (fun _ _ => False) I12 (stat1 n12) st12 stop1) fun r s13 ⟨hr, I13⟩ => ?_
          subst hr
          exact fin I13 nx1
        · refine thnF (T1.item (X.blk s3 H3 scope ce fp) rfl rfl rfl hc j _ s12 (wipe σ8 vs1) H12 (fun _ _ => False) I12 (stat1 n12) st12 go1) fun r s13 ⟨u1, hr, h13⟩ => ?_
          subst hr
          refine thnF h13 fun _ s14 ⟨x1, H14, I14, r14, y14, st14, n14⟩ => ?_
          have I14' := I14.pinned (stat1 n14) (T1.obj _ _ st14)
          refine thnF (pg1.run _ s14 (wipe σ8 vs1) H14 x1 u1 _ I14' r14 (step1 x1 H14 y14)) fun _ s15 ⟨σ15, H15, I15, hw15, q15⟩ => ?_
          refine thnF (pe.run _ s15 σ15 H15 _ I15 q15) fun z s17 ⟨yv, H17, I17, r17, kx, lx, ey, hD17, hz17, nx⟩ => ?_
          subst ey
          obtain ⟨ux, rfl⟩ := r17
          refine addS_ok (X := X.blk s3 H3 scope ce fp) I17 hD17 hz17 fun s18 I18 => ?_
          obtain ⟨m', hm, w'⟩ := hNx1 _ nx
          have pin' : ∀ b ∈ fp1, ∀ o, s14.heap.get? b = some o → s18.heap.get? b = some o ∧ (upd H17 D (SetSO X.prog X.w D (put kx lx))) b = none := fun b hb o e =>
            let z := I18.pin (b, o) (List.mem_append_right _ (List.mem_append_right _ (mem_pinsAt hb e)))
            ⟨z.1, z.2.1⟩
          refine ⟨m', hm, j + 1, _, I18.unpinned.weak (by rw [← hw15, wipe_length]) (fun j v e => by rw [← hw15] at e; exact (wipe_some e).1), T1.keep _ _ _ st14 fun b hb o e => (pin' b hb o e).1, fun b hb => ?_, w'⟩
          obtain ⟨o, e, _⟩ := T1.obj _ _ st14 b hb
          exact (pin' b hb o e).2
      exact start_in loop1 (T1.self X.A 0 _ _ _ st11 loop1)
  exact PpSet.codeAny_compStart_set loop (T.self X.A 0 _ _ _ st4 loop)
theorem pe_sc2 {elt tg iter tg1 iter1 : Expr} {scope : Scope} {own : List (Str × Nat)} {vs1 : List Nat} {pos : Pos} {wi wi1 : TI} {g g1 : TG} {te : TE}
    (hc : X.calm = true) (hN : X.N.Nodup) (hi : PI X tg iter wi) (ok : BlkOk X.N X.env.scope scope own) (hv : ∀ i ∈ vs1, i ∈ own.map (·.2))
    (hg : ∀ (s : Shared) (H : Hp) (C : Addr) (cl : List (Str × Addr)) (fp : List Addr), PG (X.blk s H scope (compEnvC scope cl C X.env) fp) tg g)
    (hi1 : ∀ (s : Shared) (H : Hp) (C : Addr) (cl : List (Str × Addr)) (fp : List Addr), PI (X.blk s H scope (compEnvC scope cl C X.env) fp) tg1 iter1 wi1)
    (hg1 : ∀ (s : Shared) (H : Hp) (C : Addr) (cl : List (Str × Addr)) (fp : List Addr), PG (X.blk s H scope (compEnvC scope cl C X.env) fp) tg1 g1)
    (he : ∀ (s : Shared) (H : Hp) (C : Addr) (cl : List (Str × Addr)) (fp : List Addr), PE (X.blk s H scope (compEnvC scope cl C X.env) fp) elt te)
    (hs : ∀ x, foldedSetIterable iter X.env x = pure x := by intro _; rfl) (hs1 : ∀ env x, foldedSetIterable iter1 env x = pure x := by intro _ _; rfl) :
    PE X (two2 elt tg iter tg1 iter1 scope pos) (tSc2 X.prog X.w wi g wi1 g1 te (own.map (·.2)) vs1) := by
  refine ⟨fun pins s σ H Q I h => ?_⟩
  rw [PpSet.eval_SetComp]
  refine sc2_core hc hN I hi ok hv hg hi1 hg1 he hs hs1 h fun D C s' m H' I' q hn f => ⟨m, hn, fun h'' sb => ?_⟩
  obtain ⟨f0, f1, f2, f3, f4, f5⟩ := f
  exact ⟨.ref D, H', I'.turned (t' := s'.toks) (fun b o hb e => (sb.2 b hb).trans e) f0 f1 f3 f4 f5, rfl, q⟩
end
section
variable {P : Program} {w : World} {A : Around} {E : Value → Shared → Prop} {s : Shared} {a : Addr} {l : List Str}
theorem sorted_setS {Q : Value → Shared → Prop} (R : SetS P w s.heap a l) (hh : A.handled = none) (h64 : l.length < 64)
    (hQ : ∀ s' p (out : Array Value) (c : Nat) (ks : List Str), (∀ b o, s.heap.get? b = some o → s'.heap.get? b = some o) → s'.gens = s.gens → s'.os = s.os → s.heap.objs.size ≤ p →
      s'.heap.get? p = some (seqObj "list" out c) → StrsAre out.toList ks → ks.Perm l → sortedS ks = true → Q (.ref p) s') :
    wpAny (model P w) A (call (.builtin "sorted") [.ref a]) Q E s := by
  obtain ⟨⟨es, ep, t⟩, ho, T, nd, hr, hl⟩ := R
  have hsz : es.size = l.length := T.sz
  have hf : t.fits es.size = true := T.fit
  have hb : es.size < scanBound := by unfold scanBound; omega
  refine Calls.call_function_entry kind_sorted plain_sorted entry_sorted (args_sorted1 _) ?_
  unfold Builtin.«sorted»
  refine wpAny_bind (m := checkCount "sorted" 1 1 _) (wpAny_pure ?_)
  refine wpAny_bind (collect_set (A := A.in1) hh ⟨_, ho, rfl, rfl⟩ hf hb hr hl fun s1 vs k1 hz g1 o1 pm => ?_)
  have hvl : vs.length = l.length := by rw [pm.length_eq, List.length_map, Array.length_toList]; exact hsz
  have hS : StrsAre vs (vs.map strOf) := strsAre_map vs fun v hv => by
    obtain ⟨e, he, q⟩ := List.mem_map.mp (pm.mem_iff.mp hv)
    obtain ⟨⟨k, h1, _⟩, _⟩ := T.el e he
    obtain ⟨t, h2⟩ := Value.isStrOf_shape h1
    exact ⟨k, t, by rw [← q]; exact h2⟩
  have pl : (vs.map strOf).Perm l := by
    have q := pm.map strOf
    rw [List.map_map] at q
    exact q.trans nd
  refine wpAny_bind (wpAny_newList ?_ (by rw [hvl, sizeLine_eq]; omega))
  have hoL : (s1.heap.push (seqObj "list" vs.toArray 0)).get? s1.heap.objs.size = some (seqObj "list" vs.toArray 0) := Heap.get?_push_size _ rfl
  refine wpAny_bind (wpAny_holding (wpAny_call_entry slot_list_sort ⟨_, hoL, rfl⟩ entry_list_sort (list_sort_treeK strKind_oneLt hoL hS.keysOf (fun v₁ v₂ rest e => keyKind_strs (by rw [← e]; exact hS)) (by rw [hvl]; exact h64) fun st' hp hs => ?_) (args_list_sort _)))
  obtain ⟨ks, b1, b2, b3⟩ := sorted_out_str hS hp hs
  obtain ⟨c, hc⟩ := sortedHeap_at (vs := vs) (out := (arrOf st').map (·.2)) hoL
  refine ⟨_, rfl, ?_⟩
  refine wpAny_pure ⟨_, rfl, hQ _ s1.heap.objs.size _ c ks (fun b u e => ?_) g1 o1 hz hc b1 (b2.trans pl) b3⟩
  have q := k1 b u e
  have hlt := Heap.lt_size q
  show (sortedHeap (s1.heap.push (seqObj "list" vs.toArray 0)) s1.heap.objs.size vs _).get? b = some u
  rw [sortedHeap_old (Nat.ne_of_lt hlt) (by rw [size_push']; exact Nat.lt_succ_of_lt hlt)]
  exact Heap.get?_push_of_some _ q
end
section
variable {X : Cx}
def rSortedX (P : Program) (w : World) : List V → Hp → VK → Prop := fun vs H Q => ∃ (a : Addr) (l : List Str), vs = [V.ref a] ∧ H a = some (SetSO P w a l) ∧ l.length < 64 ∧
  ∀ (ks : List Str) (p : Addr), ks.Perm l → sortedS ks = true → H p = none → Q (.ref p) (upd H p (.lst (ks.map V.str)))
theorem cr_sortedX (hc : X.calm = true) : CallR X (.builtin "sorted") (rSortedX X.prog X.w) := by
  intro pins s σ H vs us Q I r h
  obtain ⟨a, l, rfl, ha, h64, q⟩ := h
  rw [Vals.ref1 r]
  refine sorted_setS (setSO_get I ha) (I.ok.hd hc) h64 fun s' p out c ks k g o hp hg hi hpm hs => ?_
  have hlen : (ks.map V.str).length ≤ sizeLine := by rw [List.length_map, hpm.length_eq, sizeLine_eq]; omega
  have hn : H p = none := I.hok.fresh hp
  have J : Inv X pins σ (upd H p (.lst (ks.map V.str))) { s with heap := s'.heap, gens := s'.gens, drawn := s'.drawn, toks := s'.toks } :=
    I.call (ch := []) (Un.laid k hp hn) (I.hok.laid k hp ⟨hlen, out.toList, c, vals_of_strs hi, hg⟩) (by rw [g]; exact I.bare) (fun _ z => nomatch z)
  have e : s' = { s with heap := s'.heap, gens := s'.gens, drawn := s'.drawn, toks := s'.toks } := by
    cases s'
    cases s
    cases o
    rfl
  rw [e]
  exact ⟨.ref p, _, J, rfl, q ks p hpm hs hn⟩
end
end SStr

namespace Eb
open PySem PySem.Spec PyProof.Rows L2 StX
section
variable {X : Cx} {Λ : Lx} {w : WX}
def ssIn (g1 : DG) (u : DE) (env1 : List Sl) : List D → List Str → (List Str → Prop) → Prop
  | [], acc, k => k acc
  | d :: ds, acc, k => g1 d env1 fun env' => u env' (fun y => ∃ s : Str, y = .str s ∧ acc.length < 60 ∧ ssIn g1 u env1 ds (SStr.put s acc) k) (fun _ => False)
def ssOut (g : DG) (it1 : DA) (g1 : DG) (u : DE) (vs1 : List Nat) (env0 : List Sl) : List D → List Str → (List Str → Prop) → Prop
  | [], acc, k => k acc
  | d :: ds, acc, k => g d env0 fun env' => it1 env' (fun es => ssIn g1 u (wipeE env' vs1) es acc fun acc' => ssOut g it1 g1 u vs1 env0 ds acc' k) (fun _ => False)
def dSortS2 (it : DA) (g : DG) (it1 : DA) (g1 : DG) (u : DE) (vs vs1 : List Nat) : DA := fun env q x => it env (fun ds => ssOut g it1 g1 u vs1 (wipeE env vs) ds [] fun l => l.length < 64 ∧ ∀ ks : List Str, ks.Perm l → PyProof.Rows.sortedS ks = true → q (ks.map .str)) x
def tiOf (Λ : Lx) (w : WX) (t : DA) : TI := fun σ H R => ∃ env W q x, StOk Λ env W σ H ∧ XOk Λ w env W σ H x ∧ t env q x ∧ (∀ ds J H', q ds → StOk Λ env W σ H' → Ev Λ W H H' → ItOk Λ W H' J ds → R J H')
theorem snd_tiOf {t : DA} : SndI Λ w (tiOf Λ w t) t := fun env W σ H R q x S hx h k => ⟨env, W, q, x, S, hx, h, k⟩
theorem XI.pi {tg it : Expr} {t : DA} (h : XI X Λ w tg it t) (hK : X.K = Λ.B.K) : PI X tg it (tiOf Λ w t) := by
  obtain ⟨r, p, s⟩ := h.ex hK
  exact ⟨fun pins s' σ H R I ⟨env, W, q, x, S, hx, hh, k⟩ => p.run pins s' σ H R I (s env W σ H R q x S hx hh k)⟩
theorem snd_ss2 {P : Program} {wo : World} {wi wi1 : TI} {g g1 : TG} {te : TE} {it it1 : DA} {gd gd1 : DG} {ud : DE} {vs vs1 js js1 : List Nat} (hi : SndI Λ w wi it) (hg : SndG Λ g gd js) (hi1 : SndI Λ w0 wi1 it1) (hg1 : SndG Λ g1 gd1 js1) (he : Snd Λ w0 te ud) (hjs : ∀ j ∈ js, j ∈ vs) (hjs1 : ∀ j ∈ js1, j ∈ vs1) :
    SndL Λ w (tCB (SStr.rSortedX P wo) (tCons (SStr.tSc2 P wo wi g wi1 g1 te vs vs1) tNil)) (dSortS2 it gd it1 gd1 ud vs vs1) := fun env W σ H Q q x S hx h k => hi env W σ H _ _ x S hx h fun ds J H1 h1 S1 e1 J1 Dl hD => by
  obtain ⟨n0, hn0⟩ := S1.wf
  let n := 2 * (n0 + env.length) + 1
  have hns : ¬ Sub n := by unfold Sub; omega
  have hn : W n = none := hn0 n (by omega)
  have hE : env.length ≤ n := by omega
  have up1 : Same H1 (upd H1 Dl (SStr.SetSO P wo Dl [])) := same_new hD
  obtain ⟨S2, v1, v2⟩ := S1.hide (S1.grow up1) (.of up1) (i := n) (p := Dl) hD (by rw [upd_same]; simp) (.inl ⟨hE, hn⟩)
  have en : env.set n .un = env := List.set_eq_of_length_le hE
  rw [en] at S2
  have hnW : ∀ j, j ≠ n → W j = wput W n (some Dl) j := fun j hj => (wput_ne hj).symm
  have hW2 : wput W n (some Dl) n = some Dl := wput_same rfl
  have sub : ∀ j p, W j = some p → wput W n (some Dl) j = some p := fun j p e => by
    by_cases z : j = n
    · rw [z, hn] at e; cases e
    · rw [wput_ne z]; exact e
  generalize wput W n (some Dl) = W2 at *
  have nm : ¬ Λ.M Dl := fun z => S1.mx _ z hD
  have ww : wipe (wipe σ vs) vs = wipe σ vs := wipe_wipe σ vs
  -- what stays: the own things of W, what is there
  let Keep : Hp → Prop := fun H' => Same (Λ.vis W H1) (Λ.vis W2 H') ∧ (∀ j p o, W j = some p → H1 p = some o → H' p = some o) ∧ (∀ b, H1 b ≠ none → H' b ≠ none)
  have keepE : ∀ {H' H''}, Keep H' → Ev Λ W2 H' H'' → Keep H'' := fun {H' H''} K e => ⟨K.1.trans e.vis, fun j p o hj hp => e.own j p o (sub j p hj) (K.2.1 j p o hj hp), fun b hb => e.all b (K.2.2 b hb)⟩
  have visM : ∀ (H' : Hp) (o : HO), Same (Λ.vis W2 H') (Λ.vis W2 (upd H' Dl o)) := fun H' o => hid_grow fun b u g hb2 => ⟨g, by rw [upd_ne (show b ≠ Dl from fun z => g (.inr (.inr ⟨n, by rw [z]; exact hW2⟩)))]; exact hb2⟩
  have keepM : ∀ {H'} (o : HO), Keep H' → Keep (upd H' Dl o) := fun {H'} o K => ⟨K.1.trans (visM H' o), fun j p o' hj hp => by
    rw [upd_ne (ne_of_none hp hD)]
    exact K.2.1 j p o' hj hp, fun b hb => by
    by_cases z : b = Dl
    · rw [z, upd_same]; simp
    · rw [upd_ne z]; exact K.2.2 b hb⟩
  let kf : List Str → Prop := fun l => l.length < 64 ∧ ∀ ks : List Str, ks.Perm l → PyProof.Rows.sortedS ks = true → q (ks.map .str)
  let Inv1 : Nat → Hp → Prop := fun i H' => StOk Λ env W2 σ H' ∧ Keep H' ∧ ∃ acc, H' Dl = some (SStr.SetSO P wo Dl acc) ∧ ssOut gd it1 gd1 ud vs1 (wipeE env vs) (ds.drop i) acc kf
  refine ⟨fun i m H' => m = ds.length - i ∧ i ≤ ds.length ∧ Inv1 i H', ⟨ds.length, by simp, Nat.zero_le _, S2, ⟨v1, fun j p o _ h => up1 _ _ h, fun b h => some_mono up1 h⟩, [], upd_same, h1⟩, ?_⟩
  rintro i m H' ⟨rfl, hi', S', K', acc, hDl, hl⟩
  by_cases hlt : i < ds.length
  · refine .inr ⟨J1.go i env W2 σ H' hlt S' K'.1, Inv1 (i + 1), fun H2 z => ⟨ds.length - (i + 1), by omega, rfl, hlt, z⟩, fun y H2 hy => ?_⟩
    obtain ⟨sm, d, hd, rd⟩ := J1.yld i y env W2 σ H' H2 hlt S' K'.1 hy
    rw [List.drop_eq_getElem_cons hlt] at hl
    have ed : ds[i] = d := by
      rw [List.getElem?_eq_getElem hlt] at hd
      exact Option.some.inj hd
    rw [ed] at hl
    have Sg := S'.grow sm
    have e0 : Ev Λ W2 H' H2 := .of sm
    refine hg (wipeE env vs) W2 (wipe σ vs) H2 d y _ _ (Sg.wipe vs) rd hl fun env3 σ3 q3 len3 S3 hp3 => ⟨by rw [hp3 vs hjs, ww], ?_⟩
    refine hi1 env3 W2 σ3 H2 _ _ _ S3 (fun _ _ _ _ z => z.elim) q3 fun es J2 H4 h4 S4 e4 J2ok => ?_
    have e04 := e0.trans e4
    have So4 : StOk Λ env W2 σ H4 := S'.ev S4 e04
    refine ⟨fun j k H'' => k = es.length - j ∧ j ≤ es.length ∧ StOk Λ env W2 σ H'' ∧ StOk Λ env3 W2 σ3 H'' ∧ Keep H'' ∧ Same (Λ.vis W2 H4) (Λ.vis W2 H'') ∧ ∃ acc, H'' Dl = some (SStr.SetSO P wo Dl acc) ∧ ssIn gd1 ud (wipeE env3 vs1) (es.drop j) acc (fun acc' => ssOut gd it1 gd1 ud vs1 (wipeE env vs) (ds.drop (i + 1)) acc' kf),
      ⟨es.length, by simp, Nat.zero_le _, So4, S4, keepE K' e04, Same.refl _, acc, e04.own n Dl _ hW2 hDl, h4⟩, ?_⟩
    rintro j k H'' ⟨rfl, hj', So, Si, Kj, sj, acc2, hD2, hl2⟩
    by_cases hlj : j < es.length
    · refine .inr ⟨J2ok.go j env3 W2 σ3 H'' hlj Si sj, fun H3 => StOk Λ env W2 σ H3 ∧ StOk Λ env3 W2 σ3 H3 ∧ Keep H3 ∧ Same (Λ.vis W2 H4) (Λ.vis W2 H3) ∧ ∃ acc, H3 Dl = some (SStr.SetSO P wo Dl acc) ∧ ssIn gd1 ud (wipeE env3 vs1) (es.drop (j + 1)) acc (fun acc' => ssOut gd it1 gd1 ud vs1 (wipeE env vs) (ds.drop (i + 1)) acc' kf),
        fun H3 z => ⟨es.length - (j + 1), by omega, rfl, hlj, z⟩, fun y1 H3 hy1 => ?_⟩
      obtain ⟨sm1, d1, hd1, rd1⟩ := J2ok.yld j y1 env3 W2 σ3 H'' H3 hlj Si sj hy1
      rw [List.drop_eq_getElem_cons hlj] at hl2
      have ed1 : es[j] = d1 := by
        rw [List.getElem?_eq_getElem hlj] at hd1
        exact Option.some.inj hd1
      rw [ed1] at hl2
      have Sg1 := Si.grow sm1
      have ea : Ev Λ W2 H'' H3 := .of sm1
      refine hg1 (wipeE env3 vs1) W2 (wipe σ3 vs1) H3 d1 y1 _ _ (Sg1.wipe vs1) rd1 hl2 fun env5 σ5 q5 len5 S5 hp5 => ⟨by rw [hp5 vs1 hjs1, wipe_wipe σ3 vs1], ?_⟩
      refine he env5 W2 σ5 H3 _ _ _ S5 (fun _ _ _ _ z => z.elim) q5 fun z v7 H7 h7 S7 e7 r7 => ?_
      obtain ⟨tx, rfl, hlen, hl7⟩ := h7
      cases r7
      have e17 := ea.trans e7
      have hD7 := e17.own n Dl _ hW2 hD2
      have So7 : StOk Λ env W2 σ H7 := So.ev S7 e17
      have Si7 : StOk Λ env3 W2 σ3 H7 := Si.ev S7 e17
      have hE3 : env3.length ≤ n := by rw [len3, wipeE_len]; exact hE
      exact ⟨tx, acc2, rfl, hD7, by unfold scanBound; omega, So7.mutV hW2 hE hns nm, Si7.mutV hW2 hE3 hns nm, keepM _ (keepE Kj e17), (sj.trans e17.vis).trans (visM H7 _), _, upd_same, hl7⟩
    · have ej : j = es.length := by omega
      subst ej
      rw [List.drop_length] at hl2
      exact .inl ⟨J2ok.stop env3 W2 σ3 H'' Si sj, So, Kj, acc2, hD2, hl2⟩
  · have ei : i = ds.length := by omega
    subst ei
    rw [List.drop_length] at hl
    refine .inl ⟨J1.stop env W2 σ H' S' K'.1, ?_⟩
    obtain ⟨s', own', all'⟩ := K'
    have gsub : ∀ b, Λ.G W b → Λ.G W2 b := fun b g => by
      rcases g with z | z | ⟨j, z⟩
      · exact .inl z
      · exact .inr (.inl z)
      · exact .inr (.inr ⟨j, sub j b z⟩)
    have v6 : Same (Λ.vis W2 H') (Λ.vis W H') := hid_anti gsub
    obtain ⟨h64, hq⟩ := hl
    refine ⟨Dl, acc, rfl, hDl, h64, fun ks p hp hs hpn => ?_⟩
    have S9 : StOk Λ env W σ H' := S'.show_ hE hns hnW hn
    have e9 : Ev Λ W H H' := e1.trans ⟨s'.trans v6, own', all'⟩
    exact k (ks.map .str) p (ks.map V.str) _ (hq ks hp hs) (S9.grow (same_new hpn)) (e9.trans (.of (same_new hpn))) (e9.free hpn) upd_same RepL.of_strs
theorem xl_sortS2 {elt tg iter tg1 iter1 : Expr} {scope : Scope} {own : List (Str × Nat)} {vs1 : List Nat} {pos p pos2 : Pos} {it it1 : DA} {g g1 : DG} {u : DE} {js js1 : List Nat} (hc : X.calm = true) (hN : X.N.Nodup) (hg0 : Gl X "sorted") (hm0 : X.mg "sorted" = none)
    (hi : XI X Λ w tg iter it) (ok : BlkOk X.N X.env.scope scope own)
    (hg : ∀ (s : Shared) (H : Hp) (C : Addr) (cl : List (Str × Addr)) (fp : List Addr), XG (X.blk s H scope (compEnvC scope cl C X.env) fp) Λ tg g js)
    (hi1 : ∀ (s : Shared) (H : Hp) (C : Addr) (cl : List (Str × Addr)) (fp : List Addr), XI (X.blk s H scope (compEnvC scope cl C X.env) fp) Λ w0 tg1 iter1 it1)
    (hg1 : ∀ (s : Shared) (H : Hp) (C : Addr) (cl : List (Str × Addr)) (fp : List Addr), XG (X.blk s H scope (compEnvC scope cl C X.env) fp) Λ tg1 g1 js1)
    (he : ∀ (s : Shared) (H : Hp) (C : Addr) (cl : List (Str × Addr)) (fp : List Addr), XE (X.blk s H scope (compEnvC scope cl C X.env) fp) Λ w0 elt u)
    (hv : ∀ i ∈ vs1, i ∈ own.map (·.2) := by decide) (hjs : ∀ j ∈ js, j ∈ own.map (·.2) := by decide) (hjs1 : ∀ j ∈ js1, j ∈ vs1 := by decide)
    (hs : ∀ x, foldedSetIterable iter X.env x = pure x := by intro _; rfl) (hs1 : ∀ env x, foldedSetIterable iter1 env x = pure x := by intro _ _; rfl)
    (na : starEach [.SetComp elt [⟨tg, iter, [], 0⟩, ⟨tg1, iter1, [], 0⟩] scope pos2] X.env = (false, eval (.SetComp elt [⟨tg, iter, [], 0⟩, ⟨tg1, iter1, [], 0⟩] scope pos2) X.env) :: starEach [] X.env := by rfl)
    (hpl : (backTo pos (starEach [] X.env)).any (·.1) = false := by rfl) :
    XL X Λ w (.Call (.Name "sorted" p) [.SetComp elt [⟨tg, iter, [], 0⟩, ⟨tg1, iter1, [], 0⟩] scope pos2] [] pos) (dSortS2 it g it1 g1 u (own.map (·.2)) vs1) := ⟨fun hK => by
  obtain ⟨ri, pi, si⟩ := hi.ex hK
  have pset := SStr.pe_sc2 (pos := pos2) hc hN pi ok hv (fun s H C cl fp => (hg s H C cl fp).pg hK) (fun s H C cl fp => (hi1 s H C cl fp).pi hK) (fun s H C cl fp => (hg1 s H C cl fp).pg hK) (fun s H C cl fp => (he s H C cl fp).pe hK) hs hs1
  exact ⟨_, pe_callB (SStr.cr_sortedX hc) hg0 hm0 boot_sorted (pa_cons pset pa_nil na) (by decide) (by decide) na hpl, snd_ss2 si snd_tgOf snd_tiOf snd_tgOf snd_teOf hjs hjs1⟩⟩
end
end Eb

namespace Eb
open PySem PySem.Spec PyProof.Rows L2 StX
section
variable {X : Cx} {CX : CXT} {n : Nat} {C g : Addr} {sp : Sp} {E : XK}
def rLenOwn (C : Addr) (sp : Sp) (E : XK) : List V → Hp → VK → Prop := fun xs H Q => ∃ a, xs = [V.ref a] ∧ InsO H a C ∧ sp [.ref a] H (fun z H' => ∃ k : Int, z = .int k ∧ (0 ≤ k ∧ k < 2 ^ 63) ∧ Q (.int k) H') E
theorem call_lenOwn (hs : PySem.W.findIn X.K (.ref C) "__len__" = some (some (.ref g))) (hf : PySem.W.isFn X.K (.ref g) = true) (F : FnR X.prog X.w X.K X.mg X.base CX n g sp) (hr : Room (n + 1) X.A) (hx : Passes CX X E) : CallR X (.builtin "len") (rLenOwn C sp E) := by
  intro pins s σ H xs us Q I r h
  obtain ⟨a, rfl, hsl, q⟩ := h
  obtain ⟨u, rfl, ru⟩ := r.one
  cases (show u = Value.ref a from ru)
  obtain ⟨ox, od, J⟩ := insO_at I hsl
  obtain ⟨m, hF⟩ := I.fr
  refine PySem.W.len_K hF I.ok.mod.kin J hs hf ?_
  refine wpAny_mono (wpAny_call (SlX.run_at (us := [.ref a]) (ws := [.ref a]) F hr.in1 I.env0.in1 hx I (.cons rfl .nil) q)) (fun w s' z => ?_) fun _ _ x => x
  obtain ⟨z', H', I', rz, k, ek, hk, qz⟩ := z
  subst ek
  obtain ⟨t, rfl⟩ := rz
  exact ⟨hk, .int k, H', I'.tok _, ⟨_, rfl⟩, qz⟩
end
section
variable {X : Cx} {Λ : Lx} {w : WX} {wp : DW}
def lenOD (c : Nat) (wp : DW) : List D → DK := fun ds q _ => match ds with
  | [.obj c1 f1] => c1 = c ∧ wp [.obj c1 f1] (fun z => match z with
    | .int k => (0 ≤ k ∧ k < 2 ^ 63) ∧ q (.int k)
    | _ => False) (fun _ => False)
  | _ => False
theorem snd_lenOD {cc : Nat} {E : XK} : SndC Λ w (rLenOwn (Λ.B.C cc) (spF0 Λ.B wp) E) (lenOD cc wp) := fun env W σ H ds vs Q q x S hx r h k => by
  unfold lenOD at h
  split at h
  · obtain ⟨rfl, h⟩ := h
    obtain ⟨v, rfl, r1⟩ := r.one_inv
    obtain ⟨a, rfl, i1⟩ := rep_ins r1
    refine ⟨a, rfl, i1, call0 S (RepL.one r1) h fun d v H' hd S' ev rp => ?_⟩
    cases d <;> first | exact hd.elim | skip
    rename_i kk
    cases rp
    exact ⟨kk, rfl, hd.1, k _ _ H' hd.2 S' ev rfl⟩
  · exact h.elim
end
end Eb

namespace Eb
open PySem PySem.Spec PyProof.Rows L2 StX
structure FunDf (K : PySem.W.Frag) (name qual : Str) (st : Stmt) (f : Addr) : Prop where
  ex : ∃ (oc : Value) (od : Option Addr) (osl : Array (Option Value)) (dV kV doc pm : Value) (an : Option Addr) (ct : Value) (cda T2 : Addr), K.lookup f = some ⟨oc, od, .func (HK.fnC name qual st [] dV kV doc pm an (.ref cda) ct), osl⟩ ∧ PySem.W.codeIn K (.ref cda) qual = true ∧ DfN K dV 1 ∧ DfT K dV T2
section
variable {P : Program} {w' : World} {K : PySem.W.Frag} {mg : Str → Option Value} {base : Heap} {name qual : Str} {st : Stmt} {f : Addr} {N ps : List Str} {k : Nat} {B : Tb} {c : Nat}
theorem fnIXd (F : FunDf K name qual st f) (S : FnScope N ps (defScope st)) (hba : BindAll K name qual st ps 1) (hbd : BindDf K name qual st ps) {t : DS} {nf n m : Nat} (hn : ps.length = n + 1) (hN : N.length = n + 1 + m) (hK : K = B.K) (hfl : (B.fl c).length = nf)
    (body : ∀ (cdv : Value) (A : Around) (outer : List Env) (s : Shared) (H : Hp) (E : XK) (Z M : Addr → Prop) (H0 : Hp) (dl : Option (Addr × Addr)), Room k (A.deeper (envOfC qual (defScope st) s.heap.objs.size f cdv)) →
      XSs (cxOf (L2.CX P w') P w' K mg base N qual (defScope st) f cdv A outer s H E) ⟨B, Z, M, H0, dl⟩ (fun cls d _ H => E cls d H) (defBody st) t) : FnR P w' K mg base (L2.CX P w') (k + 1) f (spI B c (wpDf (wpOfI c nf n m t))) := by
  obtain ⟨oc, od, osl, dV, kV, doc, pm, an, ct, cda, T2, lk, hcd, hdf, hdt⟩ := F.ex
  have FO : FnOk P w' K mg base (L2.CX P w') (k + 1) f (HK.fnC name qual st [] dV kV doc pm an (.ref cda) ct) ps (spI B c (wpOfI c nf n m t)) :=
    fn_of lk hcd S (fun vs H Q E ⟨Z, ds, _, _, p, dx, vr, e, _, _, _, r, h, _⟩ => by rw [e, List.length_cons, r.len, h.1, hn]) fun A outer s H vs Q E hr ⟨Z, ds, q, x, p, dx, vr, e, hp, hz, hZ, r, ⟨hl, ht⟩, kq, kx⟩ => by
      subst e
      exact run_body (body (.ref cda) A outer s H E Z (fun a => a = p) H none hr) hK (st_startI hp hz hZ r (by rw [hl]; exact hN)) (initLX hp hfl kq kx) ht
  intro A outer s H us vs Q E hr e0 r hsp
  rcases df_split (hK ▸ hdt) hsp with h | h
  · exact raw0 FO (hba _ _ _ _ _ _ _ _ hdf) A outer s H us vs Q E hr e0 r h
  · exact FO.raw (hbd _ _ _ _ _ _ _ _ _ hdt) (.cons (show RelV (.ref T2) (.ref T2) from rfl) .nil) A outer s H us vs Q E hr e0 r h
end
namespace HK
theorem fun_fd {K : Fg} {d : Dq} {cda T2 : Addr} (e : fnW K d.ad = d.val) (c0 : fnBd K d.ad d.qual [] cda 1 = true) (ct : dftB K d.ad T2 = true) : FunDf K d.name d.qual d.st d.ad := by
  obtain ⟨oc, od, osl, dV, kV, doc, pm, an, ctt, h1, h2, h3⟩ := fn_getd e c0
  exact ⟨oc, od, osl, dV, kV, doc, pm, an, ctt, cda, T2, h1, h2, h3, dft_ok ct h1⟩
end HK
end Eb

namespace GQN
open PySem PySem.SeqAt PySem.Spec PyProof.Rows L2
open AutoSeq1 (wpAny_loadPart')
open MeetsSeq MeetsSeq2 MeetsSeq3 SeqRoads2
end GQN
namespace Eb
open PySem PySem.Spec PyProof.Rows L2 StX
end Eb

namespace GQN
open PySem PySem.SeqAt PySem.Spec PyProof.Rows L2
open AutoSeq1 (wpAny_loadPart')
open MeetsSeq MeetsSeq2 MeetsSeq3 SeqRoads2
section
variable {prog : Program} {w : World} {A : Around} {R : Result → Shared → Prop}
theorem list_eqU (l b : Addr) (its its2 : Array Value) (n n2 : Nat) (dd dd2 : Option Addr) (sl sl2 : Array (Option Value)) {s : Shared} {F : Fin → Shared → Prop} {E : Value → Shared → Prop} (hl1 : s.heap.get? l = some { cls := .type "list", dict := dd, data := .seq its n, slots := sl })
    (hb1 : s.heap.get? b = some { cls := .type "list", dict := dd2, data := .seq its2 n2, slots := sl2 }) (hne : its.size ≠ its2.size) (h : F (.done (.ret (.bool false))) s) :
    wpAny (model prog w) A.in1 (Builtin.«list.__eq__» ⟨[.ref l, .ref b], []⟩) F E s := by
  obtain ⟨hp, g, d, tk, os⟩ := s
  have f3 := AutoSeq1.sub_list_list
  have hne' : (its.size != its2.size) = true := by simp [hne]
  wp_walk using wpAny_loadPart' hl1, wpAny_loadPart' hb1
  exact h
theorem rc_listU {l b : Addr} {its its2 : Array Value} {Q : Value → Shared → Prop} {E : Value → Shared → Prop} {s : Shared} (hu : A.units < cLine) (h1 : PlainL s.heap l its) (h2 : PlainL s.heap b its2) (hne : its.size ≠ its2.size) (h : Q (.bool false) s) :
    wpAny (model prog w) A (richCompare .Eq (.ref l) (.ref b)) Q E s := by
  obtain ⟨⟨c, d, dt, sl⟩, n, e, hc, hd, hdt⟩ := h1
  obtain ⟨⟨c2, d2, dt2, sl2⟩, n2, e2, hc2, hd2, hdt2⟩ := h2
  simp only at hc hd hdt hc2 hd2 hdt2
  subst hc hdt hc2 hdt2
  refine wpAny_richCompare_same_room (op := .Eq) ⟨_, e, rfl⟩ ⟨_, e2, rfl⟩ F.slot_list_eq (wpAny_call (codeAny_call_builtin F.slot_list_eq.plain F.entry_list_eq (F.slot_list_eq.check _ _ _ _ _ _ _ _ ⟨_, e, rfl⟩ (F.args_list_eq_2 _ _) ?_))) hu
  exact list_eqU l b its its2 n n2 d d2 sl sl2 e e2 hne ⟨(fun x => nomatch x), h⟩
end
end GQN
namespace Eb
open PySem PySem.Spec PyProof.Rows L2
section
variable {X : Cx}
def rEqN (K : PySem.W.Frag) : R2 := fun x y H Q => ∃ a b xs, x = .ref a ∧ SqL K H a xs ∧ y = .ref b ∧ SqL K H b [] ∧ Q (.bl xs.isEmpty) H
theorem op_eqN (hu : X.A.units + 64 < cLine) : OpR X (compareOp .Eq) (rEqN X.K) := by
  intro pins s σ H x y v u Q I rx ry h
  obtain ⟨a, b, xs, rfl, h1, rfl, h2, q⟩ := h
  cases xs with
  | nil => exact op_eqD hu pins s σ H _ _ v u Q I rx ry ⟨.list [], .list [], .lst h1 .nil, .lst h2 .nil, shaped_nil, shaped_nil, q⟩
  | cons z zs =>
    cases rx
    cases ry
    obtain ⟨its, rv, p, _⟩ := I.list h1
    obtain ⟨its2, rv2, p2, _⟩ := I.list h2
    refine GQN.rc_listU (by omega) p p2 ?_ ⟨.bl _, H, I, rfl, q⟩
    cases rv
    cases rv2
    simp
end
section
variable {Λ : Lx} {w : WX} {X : Cx}
def eqND : D → D → DK := fun d e q _ => match d, e with
  | .lst ds, .lst [] => q (.bl ds.isEmpty)
  | _, _ => False
theorem snd_eqN : SndR Λ w (rEqN Λ.B.K) eqND := fun env W σ H d e v u Q q x S hx r1 r2 h k => by
  unfold eqND at h
  split at h
  · rename_i ds
    obtain ⟨p, vs, rfl, h1, r3⟩ := rep_lst r1
    obtain ⟨p2, vs2, rfl, h2, r4⟩ := rep_lst r2
    obtain rfl : vs2 = [] := r4
    refine ⟨p, p2, vs, rfl, sqL_of h1, rfl, sqL_of h2, ?_⟩
    rw [r3.emp]
    exact k _ _ H h S .refl rfl
  · exact h.elim
theorem ho_eqN (hu : X.A.units + 64 < cLine) : X.K = Λ.B.K → OpR X (compareOp .Eq) (rEqN Λ.B.K) := fun hK => hK ▸ op_eqN hu
end
end Eb

namespace Eb
open PySem PySem.Spec PyProof.Rows L2 StX
def PlainIxT (b : Expr) : Prop := ∀ o i, subscripted b true o i = runValue (.builtin "lifetime.subscript" ⟨[o, i], []⟩)
def tIxP (C : Addr) (sp : Sp) (E : L2.St → XK) (ta tb : TE) : TE := fun σ H Q => ta σ H fun x H1 => tb σ H1 fun y H2 => ∃ p, x = V.ref p ∧ InsO H2 p C ∧ sp [.ref p, y] H2 Q (E σ)
section
variable {X : Cx} {CX : CXT} {n : Nat} {C g : Addr} {sp : Sp} {E : L2.St → XK} {a b : Expr} {ta tb : TE} {pos : Pos}
theorem pe_ixP (hs : PySem.W.findIn X.K (.ref C) "__getitem__" = some (some (.ref g))) (hf : PySem.W.isFn X.K (.ref g) = true) (hfn : PySem.W.fnIn X.K g = true) (F : FnR X.prog X.w X.K X.mg X.base CX n g sp) (hr : Room (n + 1) X.A) (hx : ∀ σ, PassesAt CX X σ (E σ)) (ha : PE X a ta) (hb : PE X b tb) (hp : PlainIxT b) :
    PE X (.Subscript a b pos) (tIxP C sp E ta tb) := by
  refine ⟨fun pins s σ H Q I h => ?_⟩
  refine Subscript_ (binT ha hb I h fun v u s2 x y H2 I2 rx ry q => ?_)
  obtain ⟨p, rfl, hi, q⟩ := q
  obtain rfl : v = Value.ref p := rx
  obtain ⟨ox, od, J⟩ := insO_at I2 hi
  obtain ⟨m, hF⟩ := I2.fr
  refine PySem.W.sub_K hF I2.ok.mod.kin J hs hfn hf (wpAny_call ?_) (hp _ _)
  refine codeAny_mono (F X.A.in1 X.stack s2 H2 [.ref p, u] [.ref p, y] Q (E σ) hr.in1 I2.env0.in1 (.cons rfl (.cons ry .nil)) q) fun r s' hq => ?_
  cases r with
  | error e => exact hx σ pins H2 s2 e s' I2 hq
  | ok fl =>
    cases fl with
    | ret u => exact I2.after hq
    | next => exact False.elim hq
    | brk => exact False.elim hq
    | cont => exact False.elim hq
end
section
variable {X : Cx} {Λ : Lx} {w : WX} {a b : Expr} {ta tb : DE} {pos : Pos} {wp : DW} {n : Nat} {g : Addr}
def ixOD (c : Nat) (wp : DW) : D → D → DK := fun d e q _ => match d with
  | .obj c1 f1 => c1 = c ∧ wp [.obj c1 f1, e] q (fun _ => False)
  | _ => False
def ixXD (c : Nat) (wp : DW) : D → D → DK := fun d e q x => match d with
  | .obj c1 f1 => c1 = c ∧ wp [.obj c1 f1, e] q x
  | _ => False
theorem xe_ixP {c : Nat} (ha : XE X Λ w a ta) (hb : XE X Λ w b tb) (hs : PySem.W.findIn X.K (.ref (Λ.B.C c)) "__getitem__" = some (some (.ref g))) (hf : PySem.W.isFn X.K (.ref g) = true) (hfn : PySem.W.fnIn X.K g = true) (F : FnR X.prog X.w X.K X.mg X.base CX0 n g (spF0 Λ.B wp)) (hr : Room (n + 1) X.A)
    (hp : PlainIxT b := by exact fun _ _ => rfl) : XE X Λ w (.Subscript a b pos) (dOp (ixOD c wp) ta tb) := ⟨fun hK => by
  obtain ⟨ra, pa, sa⟩ := ha.ex hK
  obtain ⟨rb, pb, sb⟩ := hb.ex hK
  refine ⟨_, pe_ixP (E := fun _ => E0) hs hf hfn F hr (fun σ => fun _ _ _ _ _ _ z => z.elim) pa pb hp, fun env W σ H Q q x S hx h k => sa env W σ H _ _ x S hx h fun d v H1 h1 S1 e1 r1 => sb env W σ H1 _ _ x S1 (hx.on e1) h1 fun d2 v2 H2 h2 S2 e2 r2 => ?_⟩
  cases d <;> first | exact h2.elim | skip
  obtain ⟨rfl, h2⟩ := h2
  have r1 := r1.up e2.vis
  obtain ⟨p, rfl, i1⟩ := rep_ins r1
  exact ⟨p, rfl, i1, call0 S2 (RepL.cons r1 (RepL.one r2)) h2 fun d v H' a b c => k d v H' a b ((e1.trans e2).trans c)⟩⟩
theorem xe_ixPX {c : Nat} (tk : Takes X w) (ha : XE X Λ w a ta) (hb : XE X Λ w b tb) (hs : PySem.W.findIn X.K (.ref (Λ.B.C c)) "__getitem__" = some (some (.ref g))) (hf : PySem.W.isFn X.K (.ref g) = true) (hfn : PySem.W.fnIn X.K g = true) (F : FnR X.prog X.w X.K X.mg X.base (L2.CX X.prog X.w) n g (spF Λ.B wp)) (hr : Room (n + 1) X.A)
    (hp : PlainIxT b := by exact fun _ _ => rfl) : XE X Λ w (.Subscript a b pos) (dOp (ixXD c wp) ta tb) := ⟨fun hK => by
  obtain ⟨ra, pa, sa⟩ := ha.ex hK
  obtain ⟨rb, pb, sb⟩ := hb.ex hK
  refine ⟨_, pe_ixP (E := WE w) hs hf hfn F hr (fun σ => passAt tk σ) pa pb hp, fun env W σ H Q q x S hx h k => sa env W σ H _ _ x S hx h fun d v H1 h1 S1 e1 r1 => sb env W σ H1 _ _ x S1 (hx.on e1) h1 fun d2 v2 H2 h2 S2 e2 r2 => ?_⟩
  cases d <;> first | exact h2.elim | skip
  obtain ⟨rfl, h2⟩ := h2
  have r1 := r1.up e2.vis
  obtain ⟨p, rfl, i1⟩ := rep_ins r1
  exact ⟨p, rfl, i1, Λ.G W, _, q, x, hG S2, RepL.cons r1 (RepL.one r2), h2, fun d v H' hd s rp => k d v H' hd (S2.grow s) ((e1.trans e2).trans (.of s)) rp, fun dx cv od H' hd s rp => hx dx cv od H' hd (S2.grow s) ((e1.trans e2).trans (.of s)) rp⟩⟩
end
end Eb

namespace Eb
open PySem PySem.Spec PyProof.Rows L2
structure Cl where
  c : Value
  i : Option Nat
  ts : Addr → Value → Option Addr → TS
def Cl.go (k : Cl) (a : Addr) (cls : Value) (d : Option Addr) (D : Ends) (σ : L2.St) (H : Hp) : Prop := match k.i with
  | none => k.ts a cls d D σ H
  | some i => k.ts a cls d { nx := fun σ1 H1 => D.nx (σ1.set i none) H1, rt := D.rt, bk := fun σ1 H1 => D.bk (σ1.set i none) H1, ct := fun σ1 H1 => D.ct (σ1.set i none) H1 } (σ.set i (some (.ref a))) H
def wCl (K : PySem.W.Frag) (Wout : WX) (D : Ends) : List Cl → WX
  | [] => Wout
  | k :: r => fun cls d σ H => ∃ b, PySem.W.exmOne K cls k.c = some b ∧ (b = true → ∀ a, H a = none → k.go a cls d D σ H) ∧ (b = false → wCl K Wout D r cls d σ H)
inductive ClsOk (X : Cx) : List ExceptHandler → List Cl → Prop
  | nil : ClsOk X [] []
  | bare {x : Str} {c : Value} {ts : Addr → Value → Option Addr → TS} {b0 : Stmt} {su : List Stmt} {np hp : Pos} {hds : List ExceptHandler} {l : List Cl} (hc : Names X x c)
      (hsu : ∀ (a : Addr) (oe : Obj) (cls : Value) (d : Option Addr) (pn : List (Addr × Obj)), Zc cls d oe → (∃ vs, oe.data = .fields vs) → PSs (X.suite a ((a, oe) :: pn)) (b0 :: su) (ts a cls d)) (r : ClsOk X hds l) :
      ClsOk X (.ExceptHandler (some (.Name x np)) none (b0 :: su) hp :: hds) (⟨c, none, ts⟩ :: l)
  | named {x n : Str} {i : Nat} {c : Value} {ts : Addr → Value → Option Addr → TS} {b0 : Stmt} {su : List Stmt} {np hp : Pos} {hds : List ExceptHandler} {l : List Cl} (hi : X.N[i]? = some n) (hln : X.env.kindOf n = some .local) (hc : Names X x c)
      (hsu : ∀ (a : Addr) (oe : Obj) (cls : Value) (d : Option Addr) (pn : List (Addr × Obj)), Zc cls d oe → (∃ vs, oe.data = .fields vs) → PSs (X.suite a ((a, oe) :: pn)) (b0 :: su) (ts a cls d)) (r : ClsOk X hds l) :
      ClsOk X (.ExceptHandler (some (.Name x np)) (some n) (b0 :: su) hp :: hds) (⟨c, some i, ts⟩ :: l)
theorem ps_tryM {X : Cx} {body : List Stmt} {h0 : ExceptHandler} {hds : List ExceptHandler} {l : List Cl} {pos : Pos} {tb : WX → TS} {Wout : WX} (hs : X.stack = X.env :: X.outer) (hf : X.env.frame = some X.env.locals) (hN : X.N.Nodup) (tk : Takes X Wout)
    (hb : ∀ (W : WX) (pn : List (Addr × Obj)) (xe : Value → Shared → Prop), Takes (X.tr pn xe) W → PassesOwn (model X.prog X.w) X.A X.env xe → PSs (X.tr pn xe) body (tb W))
    (hh : ClsOk X (h0 :: hds) l) : PS X (.Try body (h0 :: hds) [] [] pos) (fun D σ H => tb (wCl X.K Wout D l) D σ H) := by
  refine ⟨fun pins s σ H D I h => wpAny_Try_except ?_⟩
  have ok := I.ok
  have fr : X.A.frames = some (X.env :: X.outer) := by rw [ok.frames, hs]
  refine wpAny_mono ((hb (wCl X.K Wout D l) (X.pn ++ pins) (fun e t1 => wpAny (model X.prog X.w) X.A (noteFrame e X.env) (fun _ t2 => wpAny (model X.prog X.w) X.A (setFlight e none) (fun _ t3 => wpAny (model X.prog X.w) X.A (handleBy e X.env (h0 :: hds)) (SP X pins D) X.xe t3) X.xe t2) X.xe t1) (fun u t hx => ?_) PassesOwn.looking).run [] s σ H D (I.toTry _) h) (fun f t hq => ?_) (fun _ _ z => z)
  · obtain ⟨a, B, sI, pn2, σ2, H2, cls, d, rfl, J0, nb, up, sky, na, os, ag, w⟩ := hx
    have J : Inv X pins σ2 H2 sI := J0.ofTry ok
    show wpAny (model X.prog X.w) X.A (noteFrame (.ref a) X.env) _ _ _
    refine Sky.land Zc.steady fr hf (by rw [← hs]; exact sky) fun h3 fl3 up3 => ?_
    have J3 : Inv X pins σ2 H2 { t with heap := h3 } := J.landed nb fl3.1 (up.trans up3) os ag
    obtain ⟨oe3, vs3, he3, hz3, hd3⟩ := fl3.there
    have nfr : a ∉ frs (X.env :: X.outer) := fun hm => by
      obtain ⟨_, o1, e1, hn1⟩ := fl3.2.2.1.mem hm
      rw [he3] at e1
      cases e1
      exact hn1 _ hd3
    have nL : a ≠ X.env.locals := fun z => nfr (List.mem_filterMap.mpr ⟨X.env, List.mem_cons_self, by rw [hf, z]⟩)
    have nF : a ∉ X.fs := fun hm => by
      obtain ⟨e1, he1, q1⟩ := List.mem_filterMap.mp hm
      exact nfr (List.mem_filterMap.mpr ⟨e1, List.mem_cons_of_mem _ he1, q1⟩)
    have S3 := J3.suite he3 hd3 na nL nF
    have LT : PySem.W.Looks (model X.prog X.w) h3 (typeOf (.ref a)) cls := fun A Q E s k q => wpAny_typeOf_ref (k _ _ he3) (by rw [hz3.1]; exact q)
    have ask : ∀ {x : Str} {c : Value} {np : Pos} {Q : Value → Shared → Prop} {E : Value → Shared → Prop}, Names X x c → Q c { t with heap := h3 } → wpAny (model X.prog X.w) (X.A.mark (some (.ref a))) (eval (.Name x np) X.env) Q E { t with heap := h3 } := fun {x c np Q E} hc q => by
      obtain ⟨hg, hdbg, hm | ⟨hm, hv, hnn⟩⟩ := hc
      · exact ld_glob (X := X.suite a ((a, oe3) :: (X.pn ++ pins))) S3 hg hm q hdbg
      · exact ld_blt (X := X.suite a ((a, oe3) :: (X.pn ++ pins))) S3 hg hm hv q hnn hdbg
    have go : ∀ {hs2 : List ExceptHandler} {l2 : List Cl}, ClsOk X hs2 l2 → wCl X.K Wout D l2 cls d σ2 H2 → wpAny (model X.prog X.w) X.A (handleBy (.ref a) X.env hs2) (SP X pins D) X.xe { t with heap := h3 } := by
      intro hs2 l2 hk
      induction hk with
      | nil =>
        intro w
        refine wpAny_handleBy_nil ?_
        obtain ⟨k1, k2, k3, oe, vs, T, oT, ts2, he, hz, hd, h1, hr⟩ := id fl3
        unfold PySem.passOn
        refine wpAny_bind (wpAny_field he hd h1 ?_)
        rw [if_neg (show ¬ ((Value.ref T == Value.none) = true) from by simp)]
        have fin : wpAny (model X.prog X.w) X.A (setFlight (.ref a) X.env.frame) (fun _ s4 => wpAny (model X.prog X.w) X.A (throw (.ref a) : Sem Flow) (SP X pins D) X.xe s4) X.xe { t with heap := h3 } := by
          rw [hf]
          refine HandSPX.setFlight_upZ fl3 fun h4 hh4 up4 => wpAny_throw (tk _ _ ?_)
          exact ⟨a, B, sI, pins, σ2, H2, cls, d, rfl, J, nb, (up.trans up3).trans up4, .inr (.inr (by rw [hs]; exact hh4)), na, os, ag, w⟩
        first
          | exact wpAny_bind (wpAny_pure (wpAny_bind fin))
          | exact wpAny_bind fin
      | @bare x c ts b0 su np hp hds2 l2 hc hsu r ih =>
        intro w
        obtain ⟨b, hb1, hyes, hno⟩ := w
        refine wpAny_handleBy_cons (codeAny_handlers_test (ask hc ((PySem.W.exm_one (M := model X.prog X.w) J3.kIn LT hb1).here ?_))) (by intro q; cases q)
        cases b with
        | true =>
          refine codeAny_handlers_suite (HandSPX.lands_againZ fl3 fun h4 fl4 up4 => ?_)
          have J4 : Inv X pins σ2 H2 { t with heap := h4 } := J.landed nb fl4.1 ((up.trans up3).trans up4) os ag
          obtain ⟨oe4, vs4, he4, hz4, hd4⟩ := fl4.there
          have S4 := J4.suite he4 hd4 na nL nF
          refine wpAny_mono ((hsu a oe4 cls d (X.pn ++ pins) hz4 ⟨_, hd4⟩).run [] _ _ H2 _ S4 (hyes rfl a na)) (fun f s6 hsp => ?_) (fun _ _ z => False.elim z)
          cases f with
          | ret u => obtain ⟨v6, σ6, H6, S6, r6, q6⟩ := hsp; exact ⟨_, _, _, S6.unsuite ok, r6, q6⟩
          | next => obtain ⟨σ6, H6, S6, q6⟩ := hsp; exact ⟨_, _, S6.unsuite ok, q6⟩
          | brk => obtain ⟨σ6, H6, S6, q6⟩ := hsp; exact ⟨_, _, S6.unsuite ok, q6⟩
          | cont => obtain ⟨σ6, H6, S6, q6⟩ := hsp; exact ⟨_, _, S6.unsuite ok, q6⟩
        | false =>
          show wpAny _ X.A (handleBy (.ref a) X.env hds2) _ _ _
          exact ih (hno rfl)
      | @named x n i c ts b0 su np hp hds2 l2 hi hln hc hsu r ih =>
        intro w
        obtain ⟨b, hb1, hyes, hno⟩ := w
        refine wpAny_handleBy_cons (codeAny_handlers_test (ask hc ((PySem.W.exm_one (M := model X.prog X.w) J3.kIn LT hb1).here ?_))) (by intro q; cases q)
        cases b with
        | true =>
          refine codeAny_handlers_suite_as (HandSPX.lands_againZ fl3 fun h4 fl4 up4 => ?_)
          have J4 : Inv X pins σ2 H2 { t with heap := h4 } := J.landed nb fl4.1 ((up.trans up3).trans up4) os ag
          obtain ⟨oe4, vs4, he4, hz4, hd4⟩ := fl4.there
          have S4 := J4.suite he4 hd4 na nL nF
          refine store_ok (X := X.suite a ((a, oe4) :: (X.pn ++ pins))) (v := .ref a) S4 hN hi (.inl hln) rfl (fun s5 S5 => ?_) (.inr hln)
          refine wpAny_mono ((hsu a oe4 cls d (X.pn ++ pins) hz4 ⟨_, hd4⟩).run [] s5 _ H2 _ S5 (hyes rfl a na)) (fun f s6 hsp => ?_) (fun _ _ z => False.elim z)
          have fin : ∀ {σ6 : L2.St} {H6 : Hp} {Q : Shared → Prop}, Inv (X.suite a ((a, oe4) :: (X.pn ++ pins))) [] σ6 H6 s6 → (∀ s7, Inv X pins (σ6.set i none) H6 s7 → Q s7) → wpAny (model X.prog X.w) X.A (do bindName X.env n .none; unbindBehindTheSuite X.env n hp) (fun _ s7 => Q s7) X.xe s6 := fun {σ6 H6 Q} S6 hq => gone_ok (S6.unsuite ok) hN hi hln hq
          cases f with
          | ret u => obtain ⟨v6, σ6, H6, S6, r6, q6⟩ := hsp; exact fin S6 fun s7 J7 => ⟨_, _, _, J7, r6, q6⟩
          | next => obtain ⟨σ6, H6, S6, q6⟩ := hsp; exact fin S6 fun s7 J7 => ⟨_, _, J7, q6⟩
          | brk => obtain ⟨σ6, H6, S6, q6⟩ := hsp; exact fin S6 fun s7 J7 => ⟨_, _, J7, q6⟩
          | cont => obtain ⟨σ6, H6, S6, q6⟩ := hsp; exact fin S6 fun s7 J7 => ⟨_, _, J7, q6⟩
        | false =>
          show wpAny _ X.A (handleBy (.ref a) X.env hds2) _ _ _
          exact ih (hno rfl)
    exact go hh w
  · cases f with
    | ret u => obtain ⟨v, σ1, H1, J1, r, q⟩ := hq; exact ⟨v, σ1, H1, J1.ofTry ok, r, q⟩
    | next => obtain ⟨σ1, H1, J1, q⟩ := hq; exact wpAny_execs_nil ⟨σ1, H1, J1.ofTry ok, q⟩
    | brk => obtain ⟨σ1, H1, J1, q⟩ := hq; exact ⟨σ1, H1, J1.ofTry ok, q⟩
    | cont => obtain ⟨σ1, H1, J1, q⟩ := hq; exact ⟨σ1, H1, J1.ofTry ok, q⟩
end Eb

namespace Eb
open PySem PySem.Spec PyProof.Rows L2
structure DCl where
  cs : List Nat
  i : Option Nat
  ts : Addr → Value → Option Addr → DS
def clGo (e : DEnds) (env : List Sl) (dx : DX) : List DCl → Prop
  | [] => e.ex env dx
  | k :: r => iteB (k.cs.contains dx.c) (match k.i with
    | some i => ∀ a cls od, k.ts a cls od (env.set i (.er a cls od dx)) { nx := fun env2 => e.nx (env2.set i .un), rt := e.rt, bk := fun env2 => e.bk (env2.set i .un), ct := fun env2 => e.ct (env2.set i .un), ex := fun _ _ => False }
    | none => ∀ a cls od, k.ts a cls od env { e with ex := fun _ _ => False }) (clGo e env dx r)
def dTryM (all : List Nat) (tB : DS) (l : List DCl) : DS := fun env e => tB env { e with ex := fun env2 dx => dx.c ∈ all ∧ clGo e env2 dx l }
section
variable {X : Cx} {Λ : Lx} {w : WX}
inductive XCl (X : Cx) (Λ : Lx) (all : List Nat) : List ExceptHandler → List DCl → Prop
  | nil : XCl X Λ all [] []
  | bare {x : Str} {c : Value} {cs : List Nat} {tS : Addr → Value → Option Addr → DS} {b0 : Stmt} {su : List Stmt} {np hp : Pos} {hds : List ExceptHandler} {l : List DCl} (hc : Names X x c) (hcs : ∀ k ∈ all, PySem.W.exmOne X.K (.ref (Λ.B.C k)) c = some (cs.contains k))
      (hsu : ∀ (a : Addr) (oe : Obj) (cls : Value) (d : Option Addr) (pn : List (Addr × Obj)), Zc cls d oe → (∃ vs, oe.data = .fields vs) → XSs (X.suite a ((a, oe) :: pn)) Λ w0 (b0 :: su) (tS a cls d)) (r : XCl X Λ all hds l) :
      XCl X Λ all (.ExceptHandler (some (.Name x np)) none (b0 :: su) hp :: hds) (⟨cs, none, tS⟩ :: l)
  | named {x n : Str} {i : Nat} {c : Value} {cs : List Nat} {tS : Addr → Value → Option Addr → DS} {b0 : Stmt} {su : List Stmt} {np hp : Pos} {hds : List ExceptHandler} {l : List DCl} (hi : X.N[i]? = some n) (hln : X.env.kindOf n = some .local) (hc : Names X x c) (hcs : ∀ k ∈ all, PySem.W.exmOne X.K (.ref (Λ.B.C k)) c = some (cs.contains k))
      (hsu : ∀ (a : Addr) (oe : Obj) (cls : Value) (d : Option Addr) (pn : List (Addr × Obj)), Zc cls d oe → (∃ vs, oe.data = .fields vs) → XSs (X.suite a ((a, oe) :: pn)) Λ w0 (b0 :: su) (tS a cls d)) (r : XCl X Λ all hds l) :
      XCl X Λ all (.ExceptHandler (some (.Name x np)) (some n) (b0 :: su) hp :: hds) (⟨cs, some i, tS⟩ :: l)
theorem xs_tryM {all : List Nat} {body : List Stmt} {h0 : ExceptHandler} {hds : List ExceptHandler} {l : List DCl} {tB : DS} {pos : Pos} (hs : X.stack = X.env :: X.outer) (hf : X.env.frame = some X.env.locals) (hN : X.N.Nodup) (tk : Takes X w)
    (hb : ∀ (W : WX) (pn : List (Addr × Obj)) (xe : Value → Shared → Prop), Takes (X.tr pn xe) W → PassesOwn (model X.prog X.w) X.A X.env xe → XSs (X.tr pn xe) Λ W body tB) (hh : XCl X Λ all (h0 :: hds) l) : XS X Λ w (.Try body (h0 :: hds) [] [] pos) (dTryM all tB l) := ⟨fun hK => by
  obtain ⟨l2, ok, go⟩ : ∃ l2 : List Cl, ClsOk X (h0 :: hds) l2 ∧ ∀ (env : List Sl) (W0 : Ow) (H0 : Hp) (E : Ends) (e : DEnds), Lnk Λ w W0 H0 E e → ∀ env2 W2 σ2 H2 dx cv od, dx.c ∈ all → clGo e env2 dx l → StOk Λ env2 W2 σ2 H2 → Same (Λ.vis W0 H0) (Λ.vis W2 H2) → RepX Λ.B (Λ.vis W2 H2) dx cv od → wCl X.K w E l2 cv od σ2 H2 := by
    generalize (h0 :: hds) = hds at hh
    induction hh with
    | nil => exact ⟨[], .nil, fun env W0 H0 E e L env2 W2 σ2 H2 dx cv od ha hx S sm rx => L.ex _ _ _ _ _ _ _ hx S sm rx⟩
    | @bare x c cs tS b0 su np hp hds l hc hcs hsu r ih =>
      obtain ⟨l2, ok, go⟩ := ih
      refine ⟨⟨c, none, fun a cls d => cnS Λ w0 (tS a cls d)⟩ :: l2, .bare hc (fun a oe cls d pn z1 z2 => (hsu a oe cls d pn z1 z2).cn hK) ok, fun env W0 H0 E e L env2 W2 σ2 H2 dx cv od ha hx S sm rx => ?_⟩
      refine ⟨cs.contains dx.c, by rw [rx.1]; exact hcs _ ha, fun hb a na => ?_, fun hb => ?_⟩
      · have hx : iteB (cs.contains dx.c) (∀ a cls od, tS a cls od env2 { e with ex := fun _ _ => False }) (clGo e env2 dx l) := hx
        rw [hb] at hx
        refine ⟨env2, W2, _, S, ?_, hx a cv od⟩
        exact ⟨fun env3 W3 σ3 H3 q S3 s3 => L.nx _ _ _ _ q S3 (sm.trans s3), fun env3 W3 σ3 H3 q S3 s3 => L.bk _ _ _ _ q S3 (sm.trans s3), fun env3 W3 σ3 H3 q S3 s3 => L.ct _ _ _ _ q S3 (sm.trans s3), L.rt, fun _ _ _ _ _ _ _ q => q.elim⟩
      · have hx : iteB (cs.contains dx.c) (∀ a cls od, tS a cls od env2 { e with ex := fun _ _ => False }) (clGo e env2 dx l) := hx
        rw [hb] at hx
        exact go env W0 H0 E e L env2 W2 σ2 H2 dx cv od ha hx S sm rx
    | @named x n i c cs tS b0 su np hp hds l hi hln hc hcs hsu r ih =>
      obtain ⟨l2, ok, go⟩ := ih
      refine ⟨⟨c, some i, fun a cls d => cnS Λ w0 (tS a cls d)⟩ :: l2, .named hi hln hc (fun a oe cls d pn z1 z2 => (hsu a oe cls d pn z1 z2).cn hK) ok, fun env W0 H0 E e L env2 W2 σ2 H2 dx cv od ha hx S sm rx => ?_⟩
      have hx : iteB (cs.contains dx.c) (∀ a cls od, tS a cls od (env2.set i (.er a cls od dx)) { nx := fun env3 => e.nx (env3.set i .un), rt := e.rt, bk := fun env3 => e.bk (env3.set i .un), ct := fun env3 => e.ct (env3.set i .un), ex := fun _ _ => False }) (clGo e env2 dx l) := hx
      refine ⟨cs.contains dx.c, by rw [rx.1]; exact hcs _ ha, fun hb a na => ?_, fun hb => ?_⟩
      · rw [hb] at hx
        refine ⟨_, W2, _, S.putE rx, ?_, hx a cv od⟩
        exact ⟨fun env3 W3 σ3 H3 q S3 s3 => L.nx _ _ _ _ q S3.forget (sm.trans s3), fun env3 W3 σ3 H3 q S3 s3 => L.bk _ _ _ _ q S3.forget (sm.trans s3), fun env3 W3 σ3 H3 q S3 s3 => L.ct _ _ _ _ q S3.forget (sm.trans s3), L.rt, fun _ _ _ _ _ _ _ q => q.elim⟩
      · rw [hb] at hx
        exact go env W0 H0 E e L env2 W2 σ2 H2 dx cv od ha hx S sm rx
  refine ⟨_, ps_tryM (tb := fun W => cnS Λ W tB) (Wout := w) hs hf hN tk (fun W pn xe t1 t2 => (hb W pn xe t1 t2).cn hK) ok, fun env W σ H E e S L h => ?_⟩
  unfold dTryM at h
  refine ⟨env, W, _, S, ?_, h⟩
  exact ⟨L.nx, L.bk, L.ct, L.rt, fun env2 W2 σ2 H2 dx cv od hx S2 sm rx => go env W H E e L env2 W2 σ2 H2 dx cv od hx.1 hx.2 S2 sm rx⟩⟩
end
end Eb

namespace Eb
open PySem PySem.Spec PyProof.Rows L2 StX
end Eb

namespace Eb
open PySem PySem.Spec PyProof.Rows L2 StX
def Mu.d : Mu → D
  | .va d => d
  | .ow ds => .lst ds
  | .od ks ds => .dic ks ds
def MuU (B : Tb) (Y H : Hp) (u : Option Addr) (v : V) : Mu → Prop
  | .va d => Rep B Y d v
  | .ow ds => ∃ p vs, v = .ref p ∧ u = some p ∧ H p = some (.lst vs) ∧ RepL B Y ds vs
  | .od ks ds => ∃ p kvs, v = .ref p ∧ u = some p ∧ H p = some (.dK kvs) ∧ kvs.map (·.1) = ks ∧ RepL B Y ds (kvs.map (·.2))
def MusU (B : Tb) (Y H : Hp) (u : Nat → Option Addr) : Nat → List Mu → List V → Prop
  | _, [], vs => vs = []
  | k, m :: ms, vs => ∃ v r, vs = v :: r ∧ MuU B Y H (u k) v m ∧ MusU B Y H u (k + 1) ms r
theorem muU {Λ : Lx} {W : Ow} {H : Hp} {i k : Nat} {v : V} {m : Mu} : MuOk Λ W H i k v m ↔ MuU Λ.B (Λ.vis W H) H (W (sub i k)) v m := by cases m <;> exact Iff.rfl
theorem musU {Λ : Lx} {W : Ow} {H : Hp} {i : Nat} : ∀ {ms : List Mu} {k : Nat} {vs : List V}, MusOk Λ W H i k ms vs ↔ MusU Λ.B (Λ.vis W H) H (fun k => W (sub i k)) k ms vs
  | [], _, _ => Iff.rfl
  | m :: ms, k, vs => ⟨fun ⟨v, r, e, h1, h2⟩ => ⟨v, r, e, muU.mp h1, musU.mp h2⟩, fun ⟨v, r, e, h1, h2⟩ => ⟨v, r, e, muU.mpr h1, musU.mpr h2⟩⟩
section
variable {B : Tb} {Y Y' H H' : Hp} {u u' : Nat → Option Addr}
theorem MuU.gen {a a' : Option Addr} {v : V} {m : Mu} (e : Same Y Y') (hu : ∀ p, a = some p → a' = some p) (ho : ∀ p o, a = some p → H p = some o → H' p = some o) (h : MuU B Y H a v m) : MuU B Y' H' a' v m := by
  cases m with
  | va d => exact Rep.mono e d v h
  | ow ds =>
    obtain ⟨p, vs, h0, h1, h2, h3⟩ := h
    exact ⟨p, vs, h0, hu _ h1, ho _ _ h1 h2, h3.up e⟩
  | od ks ds =>
    obtain ⟨p, kvs, h0, h1, h2, h3, h4⟩ := h
    exact ⟨p, kvs, h0, hu _ h1, ho _ _ h1 h2, h3, h4.up e⟩
theorem MusU.gen (e : Same Y Y') : ∀ {ms : List Mu} {k : Nat} {vs : List V}, (∀ j p, k ≤ j → u j = some p → u' j = some p) → (∀ j p o, k ≤ j → u j = some p → H p = some o → H' p = some o) → MusU B Y H u k ms vs → MusU B Y' H' u' k ms vs
  | [], _, _, _, _, h => h
  | m :: ms, k, _, hu, ho, ⟨v, r, e1, h1, h2⟩ => ⟨v, r, e1, h1.gen e (fun p => hu k p (Nat.le_refl _)) fun p o => ho k p o (Nat.le_refl _), MusU.gen e (fun j p hj => hu j p (by omega)) (fun j p o hj => ho j p o (by omega)) h2⟩
theorem MusU.len : ∀ {ms : List Mu} {k : Nat} {vs : List V}, MusU B Y H u k ms vs → vs.length = ms.length
  | [], _, _, h => by rw [show _ = [] from h]; rfl
  | m :: ms, k, _, ⟨v, r, e1, h1, h2⟩ => by rw [e1, List.length_cons, List.length_cons, h2.len]
theorem MusU.get : ∀ {ms : List Mu} {k j : Nat} {vs : List V} {m : Mu}, MusU B Y H u k ms vs → ms[j]? = some m → ∃ v, vs[j]? = some v ∧ MuU B Y H (u (k + j)) v m
  | [], _, _, _, _, _, e => by simp at e
  | m :: ms, k, 0, _, _, ⟨v, r, e1, h1, h2⟩, e => by
    simp at e
    subst e
    exact ⟨v, by rw [e1]; rfl, h1⟩
  | m :: ms, k, j + 1, _, _, ⟨v, r, e1, h1, h2⟩, e => by
    obtain ⟨w, h3, h4⟩ := MusU.get (j := j) h2 (by simpa using e)
    exact ⟨w, by rw [e1]; simpa using h3, by rw [show k + (j + 1) = k + 1 + j by omega]; exact h4⟩
theorem MusU.set {j0 : Nat} {m0 : Mu} {v0 : V} (e : Same Y Y') : ∀ {ms : List Mu} {k j : Nat} {vs : List V}, k + j = j0 → j < ms.length → (∀ i p, i ≠ j0 → u i = some p → u' i = some p) → (∀ i p o, i ≠ j0 → u i = some p → H p = some o → H' p = some o) → MuU B Y' H' (u' j0) v0 m0 →
    MusU B Y H u k ms vs → MusU B Y' H' u' k (ms.set j m0) (vs.set j v0)
  | [], _, _, _, _, hj, _, _, _, _ => by simp at hj
  | m :: ms, k, 0, _, ej, hj, hu, ho, h0, ⟨v, r, e1, h1, h2⟩ => by
    subst e1
    have : k = j0 := by omega
    subst this
    exact ⟨v0, r, rfl, h0, h2.gen e (fun i p hi => hu i p (by omega)) fun i p o hi => ho i p o (by omega)⟩
  | m :: ms, k, j + 1, _, ej, hj, hu, ho, h0, ⟨v, r, e1, h1, h2⟩ => by
    subst e1
    exact ⟨v, r.set j v0, rfl, h1.gen e (fun p => hu k p (by omega)) fun p o => ho k p o (by omega), MusU.set e (by omega) (by simpa using hj) hu ho h0 h2⟩
theorem MusU.snoc {m0 : Mu} {v0 : V} (e : Same Y Y') : ∀ {ms : List Mu} {k : Nat} {vs : List V}, (∀ i p, i < k + ms.length → u i = some p → u' i = some p) → (∀ i p o, i < k + ms.length → u i = some p → H p = some o → H' p = some o) → MuU B Y' H' (u' (k + ms.length)) v0 m0 →
    MusU B Y H u k ms vs → MusU B Y' H' u' k (ms ++ [m0]) (vs ++ [v0])
  | [], k, vs, _, _, h0, h => by
    rw [show vs = [] from h]
    exact ⟨v0, [], rfl, h0, rfl⟩
  | m :: ms, k, _, hu, ho, h0, ⟨v, r, e1, h1, h2⟩ => by
    subst e1
    rw [List.length_cons] at hu ho h0
    exact ⟨v, r ++ [v0], rfl, h1.gen e (fun p => hu k p (by omega)) fun p o => ho k p o (by omega), MusU.snoc e (fun i p hi => hu i p (by omega)) (fun i p o hi => ho i p o (by omega)) (by rw [show k + 1 + ms.length = k + (ms.length + 1) by omega]; exact h0) h2⟩
end
def subK (i j : Nat) : Option Nat := if 1000 ≤ j ∧ j % 2 = 0 ∧ ((j - 1000) / 2) % 1000 = i then some ((j - 1000) / 2 / 1000) else none
theorem subK_sub {i k : Nat} (hi : i < 1000) : subK i (sub i k) = some k := by
  unfold subK sub
  rw [if_pos (by omega)]
  congr 1
  omega
theorem subK_some {i j k : Nat} (h : subK i j = some k) : j = sub i k := by
  unfold subK at h
  split at h
  · cases h
    unfold sub
    omega
  · cases h
theorem subK_low {i j : Nat} (h : j < 1000) : subK i j = none := by unfold subK; rw [if_neg (by omega)]
theorem sub_hi {i k : Nat} : 1000 ≤ sub i k := by unfold sub; omega
def wSub (W : Ow) (i : Nat) (u : Nat → Option Addr) : Ow := fun j => match subK i j with
  | some k => u k
  | none => W j
theorem wSub_sub {W : Ow} {i k : Nat} {u : Nat → Option Addr} (hi : i < 1000) : wSub W i u (sub i k) = u k := by unfold wSub; rw [subK_sub hi]
theorem wSub_low {W : Ow} {i j : Nat} {u : Nat → Option Addr} (h : j < 1000) : wSub W i u j = W j := by unfold wSub; rw [subK_low h]
theorem wSub_ne {W : Ow} {i j : Nat} {u : Nat → Option Addr} (h : ∀ k, j ≠ sub i k) : wSub W i u j = W j := by
  unfold wSub
  split
  · rename_i k e
    exact absurd (subK_some e) (h k)
  · rfl
theorem wSub_or {W : Ow} {i j : Nat} {u : Nat → Option Addr} {a : Addr} (h : wSub W i u j = some a) : (∃ k, j = sub i k ∧ u k = some a) ∨ ((∀ k, subK i j ≠ some k) ∧ W j = some a) := by
  unfold wSub at h
  split at h
  · rename_i k e
    exact .inl ⟨k, subK_some e, h⟩
  · rename_i e
    exact .inr ⟨fun k z => (by rw [e] at z; cases z), h⟩
def ZU (Z : Addr → Prop) (p : Addr) (u : Nat → Option Addr) (a : Addr) : Prop := Z a ∨ a = p ∨ ∃ k, u k = some a
structure Chg (B : Tb) (c : Nat) (Z F : Addr → Prop) (H H' : Hp) (p : Addr) (u u' : Nat → Option Addr) (ms : List Mu) : Prop where
  keep : ∀ a o, a ≠ p → (∀ k, u k ≠ some a) → H a = some o → H' a = some o
  at_ : ∃ o vs, H' p = some o ∧ Shp B c ms.length o vs ∧ MusU B (hid (ZU Z p u') H') H' u' 0 ms vs
  nz : ∀ k a, u' k = some a → ¬ Z a ∧ a ≠ p ∧ H' a ≠ none ∧ (F a ∨ ∃ j, u j = some a)
  inj : ∀ j k a, u' j = some a → u' k = some a → j = k
  fin : ∃ n, ∀ m, n ≤ m → u' m = none
theorem Chg.all {B : Tb} {c : Nat} {Z F : Addr → Prop} {H H' : Hp} {p : Addr} {u u' : Nat → Option Addr} {ms : List Mu} (C : Chg B c Z F H H' p u u' ms) : ∀ a, (∀ k, u k ≠ some a) → H a ≠ none → H' a ≠ none := fun a n h => by
  by_cases e : a = p
  · obtain ⟨_, _, z, _⟩ := C.at_
    rw [e, z]; simp
  · cases q : H a with
    | none => exact absurd q h
    | some o => rw [C.keep a o e n q]; simp
def Zof (Λ : Lx) (W : Ow) (i : Nat) (p : Addr) (a : Addr) : Prop := Λ.G W a ∧ a ≠ p ∧ ∀ k, W (sub i k) ≠ some a
theorem Deal.at_ {H H' : Hp} {d l : Addr} (D0 : Deal H d l) (h : ∀ a o, a ∈ [d, l] → H a = some o → H' a = some o) : Deal H' d l := by
  obtain ⟨xs, n, h1, h2, h3⟩ := D0.ex
  exact ⟨xs, n, h _ _ (by simp) h1, h _ _ (by simp) h2, h3⟩
section
variable {Λ : Lx} {env : List Sl} {W : Ow} {σ : L2.St} {H H' : Hp}
theorem mu_at {i c : Nat} {b : Bool} {ms : List Mu} (S : StOk Λ env W σ H) (h : env[i]? = some (.mu b c ms)) :
    ∃ p o vs, i < 1000 ∧ W i = some p ∧ σ[i]? = some (some (.ref p)) ∧ H p = some o ∧ Shp Λ.B c ms.length o vs ∧ ((Λ.M p ↔ b = true) ∧ ∀ k a, W (sub i k) = some a → ¬ Λ.M a) ∧ MusU Λ.B (Λ.vis W H) H (fun k => W (sub i k)) 0 ms vs := by
  obtain ⟨hz, p, dx, gs, h0, h1, h2, ⟨h3, h5, h6⟩, h4⟩ := S.sl i _ h
  refine ⟨p, dx, gs, ?_, h0, h1, h2, h3, ⟨h5, h6⟩, musU.mp h4⟩
  have := (List.getElem?_eq_some_iff.mp h).1
  have := S.len
  omega
theorem mu_atI {i c : Nat} {b : Bool} {ms : List Mu} (S : StOk Λ env W σ H) (h : env[i]? = some (.mu b c ms)) (hc : c ≠ lstC) :
    ∃ p dx gs, i < 1000 ∧ W i = some p ∧ σ[i]? = some (some (.ref p)) ∧ H p = some (.ins (Λ.B.C c) dx gs) ∧ gs.map (·.1) = (Λ.B.fl c).take ms.length ∧ ((Λ.M p ↔ b = true) ∧ ∀ k a, W (sub i k) = some a → ¬ Λ.M a) ∧ MusU Λ.B (Λ.vis W H) H (fun k => W (sub i k)) 0 ms (gs.map (·.2)) := by
  obtain ⟨p, o, vs, h0, h1, h2, h3, h4, h5, h6⟩ := mu_at S h
  obtain ⟨dx, gs, rfl, e2, rfl⟩ := h4.ins hc
  exact ⟨p, dx, gs, h0, h1, h2, h3, e2, h5, h6⟩
theorem zu_vis {i : Nat} {p : Addr} (hw : W i = some p) (a : Addr) : ZU (Zof Λ W i p) p (fun k => W (sub i k)) a ↔ Λ.G W a := by
  constructor
  · rintro (⟨z, _⟩ | rfl | ⟨k, z⟩)
    · exact z
    · exact .inr (.inr ⟨i, hw⟩)
    · exact .inr (.inr ⟨_, z⟩)
  · intro g
    by_cases e : a = p
    · exact .inr (.inl e)
    by_cases e2 : ∃ k, W (sub i k) = some a
    · exact .inr (.inr e2)
    · exact .inl ⟨g, e, fun k z => e2 ⟨k, z⟩⟩
theorem StOk.muCh {H1 : Hp} {i c : Nat} {b : Bool} {ms ms' : List Mu} {p : Addr} {u' : Nat → Option Addr} (S : StOk Λ env W σ H) (S1 : StOk Λ env W σ H1) (ev : Ev Λ W H H1) (he : env[i]? = some (.mu b c ms)) (hw : W i = some p) (C : Chg Λ.B c (Zof Λ W i p) (fun a => H a = none) H1 H' p (fun k => W (sub i k)) u' ms') :
    StOk Λ (env.set i (.mu b c ms')) (wSub W i u') σ H' ∧ Same (Λ.vis W H) (Λ.vis (wSub W i u') H') ∧ Same (hid (ZU (Zof Λ W i p) p u') H') (Λ.vis (wSub W i u') H') := by
  obtain ⟨p0, dx0, gs0, hi, hw0, hσ, hp0, hn0, hM, _⟩ := mu_at S he
  rw [hw] at hw0
  cases hw0
  have il := (List.getElem?_eq_some_iff.mp he).1
  have sl : σ.length ≤ 1000 := (S.sl i _ he).1
  have el := S.len
  have gp : Λ.G W p := .inr (.inr ⟨i, hw⟩)
  have gu : ∀ k a, W (sub i k) = some a → Λ.G W a := fun k a z => .inr (.inr ⟨_, z⟩)
  have hG : ∀ a, Λ.G (wSub W i u') a → Λ.G W a ∨ ∃ k, u' k = some a := fun a g => by
    rcases g with z | z | ⟨j, z⟩
    · exact .inl (.inl z)
    · exact .inl (.inr (.inl z))
    · rcases wSub_or z with ⟨k, _, z⟩ | ⟨_, z⟩
      · exact .inr ⟨k, z⟩
      · exact .inl (.inr (.inr ⟨j, z⟩))
  have kp : ∀ a o, ¬ Λ.G W a → H a = some o → H' a = some o := fun a o g h => C.keep a o (fun z => g (z ▸ gp)) (fun k z => g (gu k a z)) (hid_some.mp (ev.vis a o (hid_some.mpr ⟨g, h⟩))).2
  have v1 : Same (Λ.vis W H) (Λ.vis (wSub W i u') H') := hid_grow fun a o g h => ⟨fun g' => by
    rcases hG a g' with z | ⟨k, z⟩
    · exact g z
    · rcases (C.nz k a z).2.2.2 with y | ⟨j, y⟩
      · rw [h] at y; cases y
      · exact g (gu j a y), kp a o g h⟩
  have hZ : ∀ a, Λ.G (wSub W i u') a → ZU (Zof Λ W i p) p u' a := fun a g => by
    by_cases e : a = p
    · exact .inr (.inl e)
    rcases g with z | z | ⟨j, z⟩
    · exact .inl ⟨.inl z, e, fun k y => (S.wx _ a y).2.1 z⟩
    · exact .inl ⟨.inr (.inl z), e, fun k y => hM.2 k a y z⟩
    · rcases wSub_or z with ⟨k, _, z⟩ | ⟨nz, z⟩
      · exact .inr (.inr ⟨k, z⟩)
      · refine .inl ⟨.inr (.inr ⟨j, z⟩), e, fun k y => ?_⟩
        have e2 := S.wi j _ a z y
        exact nz k (by rw [e2]; exact subK_sub hi)
  have v2 : Same (hid (ZU (Zof Λ W i p) p u') H') (Λ.vis (wSub W i u') H') := hid_anti hZ
  have own : ∀ j a, W j = some a → j ≠ i → (∀ k, j ≠ sub i k) → a ≠ p ∧ ∀ k, W (sub i k) ≠ some a := fun j a h n1 n2 => ⟨fun z => n1 (S.wi j i p (z ▸ h) hw), fun k z => n2 k (S.wi j _ a h z)⟩
  refine ⟨⟨by rw [List.length_set]; exact el, fun j x ej => ?_, fun a o m h0 => ?_, fun a m => C.all a (fun k z => hM.2 k a z m) (S1.mx a m), fun a m => C.all a (fun k z => (S.wx _ a z).2.1 m) (S1.zx a m), fun j a ej => ?_, fun j k a e1 e2 => ?_, fun d l ed => ?_, ?_⟩, v1, v2⟩
  · by_cases q : j = i
    · subst q
      rw [List.getElem?_set_self il] at ej
      cases ej
      obtain ⟨dx, gs, h1, h2, h3⟩ := C.at_
      refine ⟨sl, p, dx, gs, by rw [wSub_low hi]; exact hw, hσ, h1, ⟨h2, hM.1, fun k a z m => ?_⟩, musU.mpr (h3.gen v2 (fun k a _ z => ?_) fun _ _ _ _ _ h => h)⟩
      · rw [wSub_sub hi] at z
        rcases (C.nz k a z).2.2.2 with y | ⟨j, y⟩
        · exact S.mx a m y
        · exact hM.2 j a y m
      · rw [wSub_sub hi]
        exact z
    · rw [List.getElem?_set_ne (Ne.symm q)] at ej
      have jl := (List.getElem?_eq_some_iff.mp ej).1
      have nj : ∀ j', (j' = j ∨ (σ.length ≤ 1000 ∧ ∃ k, j' = sub j k)) → j' ≠ i ∧ ∀ k, j' ≠ sub i k := fun j' hj => by
        rcases hj with rfl | ⟨_, k, rfl⟩
        · exact ⟨q, fun k z => by have := @sub_hi i k; omega⟩
        · exact ⟨fun z => by have := @sub_hi j k; omega, fun k2 z => q (sub_inj (by omega) hi z).1⟩
      refine (S.sl j x ej).genS rfl rfl v1 (fun j' a hj h => ?_) (fun j' a o hj h ho => ?_) fun k a h => .inl (by rw [wSub_ne (fun k2 z => q (sub_inj (by omega) hi z).1)] at h; exact h)
      · rw [wSub_ne (nj j' hj).2]
        exact h
      · obtain ⟨n1, n2⟩ := own j' a h (nj j' hj).1 (nj j' hj).2
        exact C.keep a o n1 n2 (ev.own _ _ _ h ho)
  · have h1 := S1.fr a o m h0
    refine C.keep a o (fun z => ?_) (fun k z => ?_) h1
    · subst z
      rcases (S.wx i a hw).2.2 with y | y
      · rw [y] at h0; cases h0
      · exact m y
    · rcases (S.wx _ a z).2.2 with y | y
      · rw [y] at h0; cases h0
      · exact m y
  · rcases wSub_or ej with ⟨k, _, z⟩ | ⟨nz, z⟩
    · obtain ⟨_, _, n3, n4⟩ := C.nz k a z
      refine ⟨n3, ?_⟩
      rcases n4 with y | ⟨k2, y⟩
      · exact ⟨fun z => S.zx a z y, .inl (S.fresh0 y)⟩
      · exact (S.wx _ a y).2
    · refine ⟨C.all a (fun k y => ?_) (S1.wx j a z).1, (S.wx j a z).2⟩
      have e := S.wi j _ a z y
      exact nz k (by rw [e]; exact subK_sub hi)
  · have cross : ∀ k0 j0, u' k0 = some a → (∀ k, subK i j0 ≠ some k) → W j0 = some a → False := fun k0 j0 h1 h2 h3 => by
      obtain ⟨_, n2, _, n4⟩ := C.nz k0 a h1
      rcases n4 with y | ⟨k2, y⟩
      · exact (S.wx j0 a h3).1 y
      · have e := S.wi j0 _ a h3 y
        exact h2 k2 (by rw [e]; exact subK_sub hi)
    rcases wSub_or e1 with ⟨k1, z1, y1⟩ | ⟨n1, y1⟩
    · rcases wSub_or e2 with ⟨k2, z2, y2⟩ | ⟨n2, y2⟩
      · rw [z1, z2, C.inj k1 k2 a y1 y2]
      · exact (cross k1 k y1 n2 y2).elim
    · rcases wSub_or e2 with ⟨k2, z2, y2⟩ | ⟨n2, y2⟩
      · exact (cross k2 j y2 n1 y1).elim
      · exact S.wi j k a y1 y2
  · obtain ⟨D0, md, ml, nw⟩ := S.dl d l ed
    have dn : ∀ a ∈ [d, l], a ≠ p ∧ ∀ k, W (sub i k) ≠ some a := fun a ha => by
      rcases List.mem_cons.mp ha with rfl | ha
      · exact ⟨fun z => (nw i).1 (by rw [hw, z]), fun k => (nw _).1⟩
      · rw [List.mem_singleton.mp ha]
        exact ⟨fun z => (nw i).2 (by rw [hw, z]), fun k => (nw _).2⟩
    refine ⟨(S1.dl d l ed).1.at_ fun a o ha h => C.keep a o (dn a ha).1 (dn a ha).2 h, md, ml, fun j => ?_⟩
    have no : ∀ a ∈ [d, l], wSub W i u' j ≠ some a := fun a ha z => by
      rcases wSub_or z with ⟨k, _, z⟩ | ⟨_, z⟩
      · rcases (C.nz k a z).2.2.2 with y | ⟨k2, y⟩
        · exact D0.none a ha y
        · exact (dn a ha).2 k2 y
      · rcases List.mem_cons.mp ha with rfl | ha
        · exact (nw j).1 z
        · rw [List.mem_singleton.mp ha] at z
          exact (nw j).2 z
    exact ⟨no d (by simp), no l (by simp)⟩
  · obtain ⟨n, hn⟩ := S.wf
    obtain ⟨n2, hn2⟩ := C.fin
    refine ⟨n + sub i n2, fun m hm => ?_⟩
    unfold wSub
    split
    · rename_i k e
      have e := subK_some e
      refine hn2 k ?_
      unfold sub at e hm
      omega
    · exact hn m (by omega)
end
section
variable {X : Cx} {e : Expr} {te : TE}
def tPk1 (te : TE) : TE := fun σ H Q => ∃ d u, H d = some u ∧ Mut (some u) ∧ ∀ od, te σ (upd H d (.frz od u)) fun v H' => H' d = some (.frz od u) ∧ Q v (upd H' d u)
theorem pe_pk1 (h : PE X e te) : PE X e (tPk1 te) := ⟨fun pins s σ H Q I hw => by
  obtain ⟨d, u, hd, mu, hw⟩ := hw
  have nf := I.nofrz hd mu
  obtain ⟨od, I1⟩ := I.lock hd mu
  exact thn (h.run pins s σ _ _ I1 (hw od)) fun w s1 ⟨v, H1, I2, rv, h1, q⟩ => ⟨v, _, I2.unlock h1 nf, rv, q⟩⟩
def tPkN (te : TE) : Nat → TE
  | 0 => te
  | n + 1 => tPk1 (tPkN te n)
theorem pe_pkN (h : PE X e te) : ∀ n, PE X e (tPkN te n)
  | 0 => h
  | n + 1 => pe_pk1 (pe_pkN h n)
def tPkP (P : TE → Prop) : TE := fun σ H Q => ∃ te n, P te ∧ tPkN te n σ H Q
theorem pe_pk : PE X e (tPkP (PE X e)) := ⟨fun pins s σ H Q I ⟨te, n, p, hw⟩ => (pe_pkN p n).run pins s σ H Q I hw⟩
abbrev Cell := Addr × List (Key × V)
end
def cells (H : Hp) (u : Nat → Option Addr) : Nat → List Cell
  | 0 => []
  | n + 1 => (match u n with
    | some p => match H p with
      | some (.dK kvs) => [(p, kvs)]
      | _ => []
    | none => []) ++ cells H u n
mutual
def D.pl : D → Bool
  | .lst _ => false
  | .tup ds => plL ds
  | .obj _ _ => false
  | .dic _ _ => false
  | .non => true
  | .bl _ => true
  | .int _ => true
  | .str _ => true
  | .ty _ => true
  | .cl _ => true
def plL : List D → Bool
  | [] => true
  | d :: ds => d.pl && plL ds
end
section
variable {B : Tb} {H H' : Hp}
mutual
theorem Rep.pl (s : ∀ a vs, SqT B.K H a vs → SqT B.K H' a vs) : ∀ (d : D) (v : V), d.pl = true → Rep B H d v → Rep B H' d v
  | .non, _, _, h => h
  | .bl _, _, _, h => h
  | .int _, _, _, h => h
  | .str _, _, _, h => h
  | .ty _, _, _, h => h
  | .cl _, _, _, h => h
  | .lst ds, _, n, _ => absurd n (by rw [D.pl]; exact Bool.false_ne_true)
  | .tup ds, _, n, ⟨a, vs, e, h, r⟩ => ⟨a, vs, e, s _ _ h, RepL.pl s ds vs (by rw [D.pl] at n; exact n) r⟩
  | .obj _ ds, _, n, _ => absurd n (by rw [D.pl]; exact Bool.false_ne_true)
  | .dic _ ds, _, n, _ => absurd n (by rw [D.pl]; exact Bool.false_ne_true)
theorem RepL.pl (s : ∀ a vs, SqT B.K H a vs → SqT B.K H' a vs) : ∀ (ds : List D) (vs : List V), plL ds = true → RepL B H ds vs → RepL B H' ds vs
  | [], _, _, h => h
  | d :: ds, _, n, ⟨v, r, e, h1, h2⟩ => ⟨v, r, e, Rep.pl s d v (by rw [plL] at n; exact (Bool.and_eq_true_iff.mp n).1) h1, RepL.pl s ds r (by rw [plL] at n; exact (Bool.and_eq_true_iff.mp n).2) h2⟩
end
end
section
variable {X : Cx} {Λ : Lx} {w : WX} {a : Expr} {t : DE}
open Classical in
noncomputable def h0Sel (M : Addr → Prop) (H0 H1 : Hp) : Hp := fun a => if M a then H0 a else H1 a
def bQ (Q : Bool → Hp → Prop) : VK := fun v H => ∃ b, v = .bl b ∧ Q b H
theorem bQ_bl {Q : Bool → Hp → Prop} : (fun b H => bQ Q (.bl b) H) = Q := by
  funext b H
  exact propext ⟨fun ⟨b', e, q⟩ => by cases e; exact q, fun q => ⟨b, rfl, q⟩⟩
theorem pt_pk1 {te : TE} (h : PT X a (fun σ H Q => te σ H (bQ Q))) : PT X a (fun σ H Q => tPk1 te σ H (bQ Q)) := ⟨fun pins s σ H Q I hw => by
  obtain ⟨d, u, hd, mu, hw⟩ := hw
  have nf := I.nofrz hd mu
  obtain ⟨od, I1⟩ := I.lock hd mu
  have e : (fun v H' => H' d = some (.frz od u) ∧ bQ Q v (upd H' d u)) = bQ (fun b H' => H' d = some (.frz od u) ∧ Q b (upd H' d u)) := by
    funext v H'
    exact propext ⟨fun ⟨z, b, e, q⟩ => ⟨b, e, z, q⟩, fun ⟨b, e, z, q⟩ => ⟨z, b, e, q⟩⟩
  have hw := hw od
  rw [e] at hw
  exact thn (h.run pins s σ _ _ I1 hw) fun b s1 ⟨H1, I2, h1, q⟩ => ⟨_, I2.unlock h1 nf, q⟩⟩
theorem pt_pkN {te : TE} (h : PT X a (fun σ H Q => te σ H (bQ Q))) : ∀ n, PT X a (fun σ H Q => tPkN te n σ H (bQ Q))
  | 0 => h
  | n + 1 => pt_pk1 (pt_pkN h n)
end
abbrev DWM := List Mu → List D → (D → List Mu → Prop) → (DX → List Mu → Prop) → Prop
structure EntM (B : Tb) (c : Nat) (Z : Addr → Prop) (H : Hp) (p : Addr) (gs : List V) (u : Nat → Option Addr) (ms : List Mu) : Prop where
  at_ : ∃ o, H p = some o ∧ Shp B c ms.length o gs
  mu : MusU B (hid (ZU Z p u) H) H u 0 ms gs
  zx : ∀ a, Z a → H a ≠ none
  zp : ¬ Z p
  nz : ∀ k a, u k = some a → ¬ Z a ∧ a ≠ p ∧ H a ≠ none
  inj : ∀ j k a, u j = some a → u k = some a → j = k
  fin : ∃ n, ∀ m, n ≤ m → u m = none
def spM0 (B : Tb) (c : Nat) (wp : DWM) : Sp := fun vs H Q _ => ∃ (Z : Addr → Prop) (p : Addr) (gs : List V) (u : Nat → Option Addr) (ms : List Mu) (ds : List D) (vr : List V) (q : D → List Mu → Prop), vs = .ref p :: vr ∧ EntM B c Z H p gs u ms ∧ RepL B (hid (ZU Z p u) H) ds vr ∧ wp ms ds q (fun _ _ => False) ∧
  ∀ d v ms' u' H', q d ms' → Chg B c Z (fun a => H a = none) H H' p u u' ms' → Rep B (hid (ZU Z p u') H') d v → Q v H'
def spM (B : Tb) (c : Nat) (wp : DWM) : Sp := fun vs H Q E => ∃ (Z : Addr → Prop) (p : Addr) (gs : List V) (u : Nat → Option Addr) (ms : List Mu) (ds : List D) (vr : List V) (q : D → List Mu → Prop) (x : DX → List Mu → Prop), vs = .ref p :: vr ∧ EntM B c Z H p gs u ms ∧ RepL B (hid (ZU Z p u) H) ds vr ∧ wp ms ds q x ∧
  (∀ d v ms' u' H', q d ms' → Chg B c Z (fun a => H a = none) H H' p u u' ms' → Rep B (hid (ZU Z p u') H') d v → Q v H') ∧ ∀ dx cv od ms' u' H', x dx ms' → Chg B c Z (fun a => H a = none) H H' p u u' ms' → RepX B (hid (ZU Z p u') H') dx cv od → E cv od H'
def endM (c : Nat) (q : List Mu → Prop) (env : List Sl) : Prop := match env[0]? with
  | some (Sl.mu true c' ms) => c' = c ∧ q ms
  | _ => False
def endsM (c : Nat) (q : D → List Mu → Prop) (x : DX → List Mu → Prop) : DEnds := ⟨endM c (q .non), fun env d => endM c (q d) env, fun _ => False, fun _ => False, fun env dx => endM c (x dx) env⟩
def wpOfM (c n m : Nat) (t : DS) : DWM := fun ms ds q x => ds.length = n ∧ t (.mu true c ms :: (ds.map Sl.va ++ List.replicate m .un)) (endsM c q x)
open Classical in
noncomputable def h0M (H : Hp) (u : Nat → Option Addr) : Hp := fun a => if ∃ k, u k = some a then none else H a
theorem h0M_of {H : Hp} {u : Nat → Option Addr} {a : Addr} {o : HO} (n : ∀ k, u k ≠ some a) (h : H a = some o) : h0M H u a = some o := by
  unfold h0M
  rw [if_neg fun ⟨k, z⟩ => n k z]
  exact h
theorem h0M_some {H : Hp} {u : Nat → Option Addr} {a : Addr} {o : HO} (h : h0M H u a = some o) : H a = some o ∧ ∀ k, u k ≠ some a := by
  unfold h0M at h
  split at h
  · cases h
  · rename_i c
    exact ⟨h, fun k z => c ⟨k, z⟩⟩
theorem h0M_none {H : Hp} {u : Nat → Option Addr} {a : Addr} {k : Nat} (h : u k = some a) : h0M H u a = none := by
  unfold h0M
  rw [if_pos ⟨k, h⟩]
def w0M (p : Addr) (u : Nat → Option Addr) : Ow := wSub (wput (fun _ => none) 0 (some p)) 0 u
theorem w0M_zero {p : Addr} {u : Nat → Option Addr} : w0M p u 0 = some p := by unfold w0M; rw [wSub_low (by omega)]; exact wput_same rfl
theorem w0M_sub {p : Addr} {u : Nat → Option Addr} {k : Nat} : w0M p u (sub 0 k) = u k := wSub_sub (by omega)
theorem w0M_or {p : Addr} {u : Nat → Option Addr} {j : Nat} {a : Addr} (h : w0M p u j = some a) : (j = 0 ∧ a = p) ∨ ∃ k, j = sub 0 k ∧ u k = some a := by
  rcases wSub_or h with z | ⟨_, z⟩
  · exact .inr z
  · by_cases e : j = 0
    · rw [wput_same e] at z
      cases z
      exact .inl ⟨e, rfl⟩
    · rw [wput_ne e] at z
      cases z
noncomputable abbrev LM (B : Tb) (Z : Addr → Prop) (H : Hp) (p : Addr) (u : Nat → Option Addr) : Lx := ⟨B, Z, fun a => a = p, h0M H u, none⟩
section
variable {B : Tb} {c : Nat} {Z : Addr → Prop} {H : Hp} {p : Addr} {gs : List V} {u : Nat → Option Addr} {ms : List Mu} {N : List Str} {ds : List D} {vr : List V} {m : Nat}
theorem st_startM (En : EntM B c Z H p gs u ms) (r : RepL B (hid (ZU Z p u) H) ds vr) (hN : N.length = ds.length + 1 + m) (hs : N.length ≤ 1000) : StOk (LM B Z H p u) (.mu true c ms :: (ds.map .va ++ List.replicate m .un)) (w0M p u) (L2.start N (.ref p :: vr)) H := by
  have g : ∀ a, (LM B Z H p u).G (w0M p u) a → ZU Z p u a := fun a g => by
    rcases g with z | z | ⟨j, z⟩
    · exact .inl z
    · exact .inr (.inl z)
    · rcases w0M_or z with ⟨_, z⟩ | ⟨k, _, z⟩
      · exact .inr (.inl z)
      · exact .inr (.inr ⟨k, z⟩)
  have v : Same (hid (ZU Z p u) H) ((LM B Z H p u).vis (w0M p u) H) := hid_anti g
  have sl : (L2.start N (.ref p :: vr)).length = N.length := start_len (by rw [List.length_cons, r.len]; omega)
  obtain ⟨dx, hat, hshp⟩ := En.at_
  refine ⟨by rw [sl]; simp [hN]; omega, fun i s e => ?_, fun a o n h => (h0M_some h).1, fun a e => ?_, En.zx, fun j a e => ?_, fun j k a e1 e2 => ?_, fun d l e => (by cases e), ?_⟩
  · cases i with
    | zero =>
      cases e
      refine ⟨by rw [sl]; exact hs, p, dx, gs, w0M_zero, by rw [start_get (by simp)]; rfl, hat, ⟨hshp, ⟨fun _ => rfl, fun _ => rfl⟩, fun k a z e => ?_⟩, musU.mpr (En.mu.gen v (fun k a _ z => ?_) fun _ _ _ _ _ h => h)⟩
      · rw [w0M_sub] at z
        exact (En.nz k a z).2.1 e
      · rw [w0M_sub]
        exact z
    | succ i =>
      rw [List.getElem?_cons_succ] at e
      rcases env_get e with ⟨d', hd, rfl⟩ | rfl
      · obtain ⟨w, hv, rv⟩ := r.get hd
        obtain ⟨hi, e2⟩ := List.getElem?_eq_some_iff.mp hv
        exact ⟨w, by rw [start_get (by simpa using hi), ← e2]; rfl, rv.up v⟩
      · trivial
  · rw [show a = p from e, hat]; simp
  · rcases w0M_or e with ⟨_, rfl⟩ | ⟨k, _, z⟩
    · exact ⟨by rw [hat]; simp, En.zp, .inr rfl⟩
    · exact ⟨(En.nz k a z).2.2, (En.nz k a z).1, .inl (h0M_none z)⟩
  · rcases w0M_or e1 with ⟨z1, y1⟩ | ⟨k1, z1, y1⟩
    · rcases w0M_or e2 with ⟨z2, y2⟩ | ⟨k2, z2, y2⟩
      · rw [z1, z2]
      · exact absurd y1 (En.nz k2 a y2).2.1
    · rcases w0M_or e2 with ⟨z2, y2⟩ | ⟨k2, z2, y2⟩
      · exact absurd y2 (En.nz k1 a y1).2.1
      · rw [z1, z2, En.inj k1 k2 a y1 y2]
  · obtain ⟨n, hn⟩ := En.fin
    refine ⟨1 + sub 0 n, fun m hm => ?_⟩
    cases e : w0M p u m with
    | none => rfl
    | some a =>
      rcases w0M_or e with ⟨z, _⟩ | ⟨k, z, y⟩
      · omega
      · rw [hn k (by unfold sub at z hm; omega)] at y
        cases y
theorem chg_of {env' : List Sl} {W' : Ow} {σ' : L2.St} {H' : Hp} {ms' : List Mu} (En : EntM B c Z H p gs u ms) (S' : StOk (LM B Z H p u) env' W' σ' H') (he : env'[0]? = some (.mu true c ms')) :
    Chg B c Z (fun a => H a = none) H H' p u (fun k => W' (sub 0 k)) ms' ∧ Same ((LM B Z H p u).vis W' H') (hid (ZU Z p fun k => W' (sub 0 k)) H') := by
  obtain ⟨p', dx', gs', _, hw, hσ, hp', hn', ⟨hM, hMu⟩, hmu⟩ := mu_at S' he
  have ep : p' = p := hM.mpr rfl
  subst ep
  have v : Same ((LM B Z H p' u).vis W' H') (hid (ZU Z p' fun k => W' (sub 0 k)) H') := hid_anti fun a z => by
    rcases z with z | z | ⟨k, z⟩
    · exact .inl z
    · exact .inr (.inl z)
    · exact .inr (.inr ⟨_, z⟩)
  refine ⟨⟨fun a o n1 n2 h => S'.fr a o n1 (h0M_of n2 h), ⟨dx', gs', hp', hn', hmu.gen v (fun _ _ _ h => h) fun _ _ _ _ _ h => h⟩, fun k a z => ?_, fun j k a h1 h2 => (sub_inj (by omega) (by omega) (S'.wi _ _ a h1 h2)).2, ?_⟩, v⟩
  · obtain ⟨w1, w2, w3⟩ := S'.wx _ a z
    refine ⟨w2, hMu k a z, w1, ?_⟩
    rcases w3 with w3 | w3
    · by_cases e : ∃ j, u j = some a
      · exact .inr e
      · refine .inl ?_
        have w3 : h0M H u a = none := w3
        unfold h0M at w3
        rw [if_neg e] at w3
        exact w3
    · exact absurd w3 (hMu k a z)
  · obtain ⟨n, hn⟩ := S'.wf
    exact ⟨n, fun m hm => hn _ (by unfold sub; omega)⟩
theorem endM_at {q : List Mu → Prop} {env : List Sl} (h : endM c q env) : ∃ ms', env[0]? = some (.mu true c ms') ∧ q ms' := by
  unfold endM at h
  split at h
  · rename_i c' ms' e
    obtain ⟨rfl, h⟩ := h
    exact ⟨ms', e, h⟩
  · exact h.elim
end
section
variable {P : Program} {w' : World} {K : PySem.W.Frag} {mg : Str → Option Value} {base : Heap} {name qual : Str} {st : Stmt} {f : Addr} {fd : FuncData} {N ps : List Str} {k : Nat} {B : Tb}
theorem fnM0 (F : Fun K name qual st f fd) (S : FnScope N ps (defScope st)) {t : DS} {c n m : Nat} (hn : ps.length = n + 1) (hN : N.length = n + 1 + m) (hs : N.length ≤ 1000) (hK : K = B.K)
    (body : ∀ (cdv : Value) (A : Around) (outer : List Env) (s : Shared) (H : Hp) (E : XK) (Z M : Addr → Prop) (H0 : Hp) (dl : Option (Addr × Addr)), Room k (A.deeper (envOfC qual (defScope st) s.heap.objs.size f cdv)) →
      XSs (cxOf CX0 P w' K mg base N qual (defScope st) f cdv A outer s H E).nox ⟨B, Z, M, H0, dl⟩ w0 (defBody st) t) : FnOk P w' K mg base CX0 (k + 1) f fd ps (spM0 B c (wpOfM c n m t)) := by
  refine F.ok S (fun vs H Q E ⟨Z, p, gs, u, ms, ds, vr, q, e, En, r, h, _⟩ => by rw [e, List.length_cons, r.len, h.1, hn]) fun cdv A outer s H vs Q E hr ⟨Z, p, gs, u, ms, ds, vr, q, e, En, r, ⟨hl, ht⟩, kq⟩ => ?_
  subst e
  refine run_body (body cdv A outer s H E Z (fun a => a = p) (h0M H u) none hr) hK (st_startM En r (by rw [hl]; exact hN) hs) ?_ ht
  refine ⟨fun env' W' σ' H' h S' _ => ?_, fun _ _ _ _ z => z.elim, fun _ _ _ _ z => z.elim, fun d v env' W' σ' H' h S' rp => ?_, fun env' W' σ' H' dx cv od h S' _ rx => ?_⟩
  · obtain ⟨ms', he, hq⟩ := endM_at h
    exact kq .non .non ms' _ H' hq (chg_of En S' he).1 rfl
  · obtain ⟨ms', he, hq⟩ := endM_at h
    obtain ⟨C, v2⟩ := chg_of En S' he
    exact kq d v ms' _ H' hq C (rp.up v2)
  · obtain ⟨_, _, z⟩ := endM_at h
    exact z.elim
theorem fnM (F : Fun K name qual st f fd) (S : FnScope N ps (defScope st)) {t : DS} {c n m : Nat} (hn : ps.length = n + 1) (hN : N.length = n + 1 + m) (hs : N.length ≤ 1000) (hK : K = B.K)
    (body : ∀ (cdv : Value) (A : Around) (outer : List Env) (s : Shared) (H : Hp) (E : XK) (Z M : Addr → Prop) (H0 : Hp) (dl : Option (Addr × Addr)), Room k (A.deeper (envOfC qual (defScope st) s.heap.objs.size f cdv)) →
      XSs (cxOf (L2.CX P w') P w' K mg base N qual (defScope st) f cdv A outer s H E) ⟨B, Z, M, H0, dl⟩ (fun cls d _ H => E cls d H) (defBody st) t) : FnOk P w' K mg base (L2.CX P w') (k + 1) f fd ps (spM B c (wpOfM c n m t)) := by
  refine F.okX S (fun vs H Q E ⟨Z, p, gs, u, ms, ds, vr, q, x, e, En, r, h, _⟩ => by rw [e, List.length_cons, r.len, h.1, hn]) fun cdv A outer s H vs Q E hr ⟨Z, p, gs, u, ms, ds, vr, q, x, e, En, r, ⟨hl, ht⟩, kq, kx⟩ => ?_
  subst e
  refine run_body (body cdv A outer s H E Z (fun a => a = p) (h0M H u) none hr) hK (st_startM En r (by rw [hl]; exact hN) hs) ?_ ht
  refine ⟨fun env' W' σ' H' h S' _ => ?_, fun _ _ _ _ z => z.elim, fun _ _ _ _ z => z.elim, fun d v env' W' σ' H' h S' rp => ?_, fun env' W' σ' H' dx cv od h S' _ rx => ?_⟩
  · obtain ⟨ms', he, hq⟩ := endM_at h
    exact kq .non .non ms' _ H' hq (chg_of En S' he).1 rfl
  · obtain ⟨ms', he, hq⟩ := endM_at h
    obtain ⟨C, v2⟩ := chg_of En S' he
    exact kq d v ms' _ H' hq C (rp.up v2)
  · obtain ⟨ms', he, hq⟩ := endM_at h
    obtain ⟨C, v2⟩ := chg_of En S' he
    exact kx dx cv od ms' _ H' hq C (rx.up v2)
end
theorem ent_of {Λ : Lx} {env : List Sl} {W : Ow} {σ : L2.St} {H : Hp} {i c : Nat} {b : Bool} {ms : List Mu} (S : StOk Λ env W σ H) (he : env[i]? = some (.mu b c ms)) :
    ∃ p o gs, i < 1000 ∧ W i = some p ∧ σ[i]? = some (some (.ref p)) ∧ H p = some o ∧ Shp Λ.B c ms.length o gs ∧ EntM Λ.B c (Zof Λ W i p) H p gs (fun k => W (sub i k)) ms ∧ Same (Λ.vis W H) (hid (ZU (Zof Λ W i p) p fun k => W (sub i k)) H) := by
  obtain ⟨p, dx, gs, hi, hw, hσ, hp, hn, ⟨hM, hMu⟩, hmu⟩ := mu_at S he
  have v : Same (Λ.vis W H) (hid (ZU (Zof Λ W i p) p fun k => W (sub i k)) H) := hid_anti fun a z => (zu_vis hw a).mp z
  refine ⟨p, dx, gs, hi, hw, hσ, hp, hn, ⟨⟨dx, hp, hn⟩, hmu.gen v (fun _ _ _ h => h) fun _ _ _ _ _ h => h, fun a z => hG S a z.1, fun z => z.2.1 rfl, fun k a z => ⟨fun y => y.2.2 k z, fun e => ?_, (S.wx _ a z).1⟩, fun j k a h1 h2 => (sub_inj hi hi (S.wi _ _ a h1 h2)).2, ?_⟩, v⟩
  · subst e
    have := S.wi _ _ _ hw z
    have := @sub_hi i k
    omega
  · obtain ⟨n, hn⟩ := S.wf
    exact ⟨n, fun m hm => hn _ (by unfold sub; omega)⟩
theorem noFt {gs : List (Str × V)} {m : Str} {ns : List Str} {n : Nat} (e : gs.map (·.1) = ns.take n) (h : ns.contains m = false) : gs.lookup m = none := by
  refine noF e ?_
  cases c : (ns.take n).contains m with
  | false => rfl
  | true =>
    have := List.contains_iff_mem.mp c
    have := List.contains_iff_mem.mpr (List.mem_of_mem_take this)
    rw [h] at this
    cases this
abbrev DM := List Sl → (D → List Sl → Prop) → (List Sl → DX → Prop) → Prop
def SndM (Λ : Lx) (w : WX) (te : TE) (t : DM) : Prop := ∀ env W σ H (Q : VK) q x, StOk Λ env W σ H → (∀ env' W' H' dx cv od, x env' dx → StOk Λ env' W' σ H' → Same (Λ.vis W H) (Λ.vis W' H') → RepX Λ.B (Λ.vis W' H') dx cv od → w cv od σ H') → t env q x →
  (∀ d v env' W' H', q d env' → env'.length = env.length → StOk Λ env' W' σ H' → Same (Λ.vis W H) (Λ.vis W' H') → Rep Λ.B (Λ.vis W' H') d v → Q v H') → te σ H Q
structure XM (X : Cx) (Λ : Lx) (w : WX) (e : Expr) (t : DM) : Prop where
  ex : X.K = Λ.B.K → ∃ te, PE X e te ∧ SndM Λ w te t
section
variable {X : Cx} {Λ : Lx} {w : WX} {a b e o : Expr} {es : List Expr} {ta tb t : DE} {tm : DM} {u : DA} {pos p apos p1 p2 : Pos} {k : Nat} {f : Addr} {fd : FuncData} {ps : List Str} {wp : DWM} {y : Str} {ts us : DS}
def dMM (i c : Nat) (wp : DWM) (u : DA) : DM := fun env q x => match env[i]? with
  | some (Sl.mu b c' ms) => c' = c ∧ u env (fun ds => wp ms ds (fun d ms' => q d (env.set i (.mu b c' ms'))) (fun dx ms' => x (env.set i (.mu b c' ms')) dx)) (x env)
  | _ => False
def dMM0 (i c : Nat) (wp : DWM) (u : DA) : DM := fun env q x => match env[i]? with
  | some (Sl.mu b c' ms) => c' = c ∧ u env (fun ds => wp ms ds (fun d ms' => q d (env.set i (.mu b c' ms'))) (fun _ _ => False)) (x env)
  | _ => False
theorem xm_methX {i c : Nat} {m : Str} {pl : Sem Bool} (tk : Takes X w) (ho : PE X (.Name y p1) (tVar i)) (cl : Cls X.K (Λ.B.C c)) (hm : Meth X.K (Λ.B.C c) m f) (hf : (Λ.B.fl c).contains m = false) (F : FnOk X.prog X.w X.K X.mg X.base (L2.CX X.prog X.w) k f fd ps (spM Λ.B c wp)) (hr : Room k X.A) (hb : Binds X.K fd ps []) (ha : XA X Λ w (e :: es) u)
    (hst : starEach (e :: es) X.env = (false, eval e X.env) :: starEach es X.env := by rfl) (hpl : (backTo pos (starEach es X.env)).any (·.1) = false := by rfl)
    (ht : eval (.Call (.Attribute (.Name y p1) m apos) (e :: es) [] pos) X.env = (do
      let ov ← eval (.Name y p1) X.env
      standAt apos.atName
      let (f, first) ← holding [ov] (getMethod ov m pl)
      callWith pos f first (backTo pos (starEach (e :: es) X.env)) (backToKw pos (keywordEach [] X.env))) := by rfl) (hc : c ≠ lstC := by decide) : XM X Λ w (.Call (.Attribute (.Name y p1) m apos) (e :: es) [] pos) (dMM i c wp u) := ⟨fun hK => by
  obtain ⟨r', p', s'⟩ := ha.ex hK
  refine ⟨_, pe_methS ho cl hm F hr hb (fun σ => passAt tk σ) p' hst hpl ht, fun env W σ H Q q x S hx h k => ?_⟩
  unfold dMM at h
  split at h
  case h_2 => exact h.elim
  rename_i b c' ms he
  obtain ⟨rfl, h⟩ := h
  obtain ⟨p, ob, gv, hi, hw, hσ, hp, hn, _, _⟩ := ent_of S he
  obtain ⟨dx, gs, rfl, hn2, rfl⟩ := hn.ins hc
  refine ⟨_, hσ, p, dx, gs, rfl, hp, noFt hn2 hf, s' env W σ H _ _ _ S (fun dx cv od H' z S' e r => hx env W H' dx cv od z S' e.vis r) h fun ds vs H2 h2 S2 e2 r2 => ?_⟩
  rw [List.append_nil]
  obtain ⟨p', dx', gs', _, hw', _, _, _, En, v⟩ := ent_of S2 he
  rw [hw] at hw'
  cases hw'
  refine ⟨_, p, gs', _, ms, ds, vs, _, _, rfl, En, r2.up v, h2, fun d w ms' u' H' hq C rp => ?_, fun dx cv od ms' u' H' hq C rx => ?_⟩
  · obtain ⟨S3, v3, v4⟩ := S2.muCh S2 .refl he hw C
    exact k d w _ _ H' hq (List.length_set ..) S3 (e2.vis.trans v3) (rp.up v4)
  · obtain ⟨S3, v3, v4⟩ := S2.muCh S2 .refl he hw C
    exact hx _ _ H' dx cv od hq S3 (e2.vis.trans v3) (rx.up v4)⟩
theorem Lnk.xom {W : Ow} {H : Hp} {E : Ends} {e : DEnds} (L : Lnk Λ w W H E e) {σ : L2.St} : ∀ env' W' H' dx cv od, e.ex env' dx → StOk Λ env' W' σ H' → Same (Λ.vis W H) (Λ.vis W' H') → RepX Λ.B (Λ.vis W' H') dx cv od → w cv od σ H' := fun env' W' H' dx cv od z S' s r => L.ex env' W' σ H' dx cv od z S' s r
def dDropM (t : DM) : DS := fun env e => t env (fun _ env' => e.nx env') e.ex
theorem xs_exprM (h : XM X Λ w a tm) (hs : swapsWith a none pos.line X.env = pure false := by rfl) : XS X Λ w (.Expr a pos) (dDropM tm) := ⟨fun hK => by
  obtain ⟨r, p, s⟩ := h.ex hK
  exact ⟨_, ps_expr p hs, fun env W σ H E e S L h => s env W σ H _ _ _ S L.xom h fun d v env' W' H' q _ S' v1 r => L.nx env' W' σ H' q S' v1⟩⟩
end
def setM {α : Type} (ms : List α) (k : Nat) (m : α) : List α := if k < ms.length then ms.set k m else ms ++ [m]
theorem mus_put {B : Tb} {Y Y' H H' : Hp} {u u' : Nat → Option Addr} {ms : List Mu} {k : Nat} {vs : List V} {v0 : V} {m0 : Mu} (hk : k ≤ ms.length) (e : Same Y Y') (hu : ∀ i p, i ≠ k → u i = some p → u' i = some p) (ho : ∀ i p o, i ≠ k → u i = some p → H p = some o → H' p = some o) (h0 : MuU B Y' H' (u' k) v0 m0)
    (h : MusU B Y H u 0 ms vs) : MusU B Y' H' u' 0 (setM ms k m0) (setM vs k v0) := by
  have hl := h.len
  unfold setM
  by_cases c : k < ms.length
  · rw [if_pos c, if_pos (by omega)]
    exact MusU.set e (Nat.zero_add k) c hu ho h0 h
  · have : k = ms.length := by omega
    subst this
    rw [if_neg c, if_neg (by omega)]
    exact MusU.snoc e (fun i p hi => hu i p (by omega)) (fun i p o hi => ho i p o (by omega)) (by rw [Nat.zero_add]; exact h0) h
theorem putF_old {g : Str} {v : V} : ∀ {gs : List (Str × V)} {k : Nat}, (gs.map (·.1))[k]? = some g → ((gs.map (·.1)).take k).contains g = false → (putF g v gs).map (·.1) = gs.map (·.1) ∧ (putF g v gs).map (·.2) = (gs.map (·.2)).set k v
  | [], k, h, _ => by simp at h
  | (n, x) :: gs, 0, h, _ => by
    simp at h
    subst h
    unfold putF
    rw [if_pos rfl]
    exact ⟨rfl, rfl⟩
  | (n, x) :: gs, k + 1, h, h2 => by
    rw [List.map_cons, List.take_succ_cons, List.contains_cons, Bool.or_eq_false_iff] at h2
    have ne : ¬ n = g := fun e => by
      have := h2.1
      rw [e, beq_self_eq_true] at this
      cases this
    obtain ⟨z1, z2⟩ := putF_old (v := v) (gs := gs) (k := k) (by simpa using h) h2.2
    unfold putF
    rw [if_neg ne]
    exact ⟨by rw [List.map_cons, List.map_cons, z1], by rw [List.map_cons, List.map_cons, z2]; rfl⟩
theorem put_at {B : Tb} {g : Str} {c k : Nat} {gs : List (Str × V)} {ms : List Mu} {v : V} {m : Mu} (ok : PutOk B g c k) (hn : gs.map (·.1) = (B.fl c).take ms.length) (hl : gs.length = ms.length) (hk : k ≤ ms.length) :
    (putF g v gs).map (·.1) = (B.fl c).take (setM ms k m).length ∧ (putF g v gs).map (·.2) = setM (gs.map (·.2)) k v := by
  obtain ⟨_, _, o1, _, o2, o3⟩ := ok
  unfold setM
  by_cases c : k < ms.length
  · rw [if_pos c, if_pos (by rw [List.length_map]; omega), List.length_set]
    have h1 : (gs.map (·.1))[k]? = some g := by
      have := congrArg (fun l => l[k]?) o1
      simp only [List.getElem?_take] at this
      rw [if_pos (by omega), List.getElem?_append_right (by rw [List.length_take]; omega), List.length_take, show k - min k (B.fl _).length = 0 by omega] at this
      rw [hn, List.getElem?_take, if_pos c, this]
      rfl
    have h2 : ((gs.map (·.1)).take k).contains g = false := by
      rw [hn, List.take_take, Nat.min_eq_left (by omega)]
      exact o2
    obtain ⟨z1, z2⟩ := putF_old (v := v) h1 h2
    exact ⟨z1.trans hn, z2⟩
  · have e : k = ms.length := by omega
    rw [if_neg c, if_neg (by rw [List.length_map]; omega), putF_new (by rw [hn, ← e]; exact o2), List.map_append, List.map_append, List.length_append]
    exact ⟨by rw [hn, ← e]; exact o1.symm, rfl⟩
section
variable {Λ : Lx} {env : List Sl} {W : Ow} {σ : L2.St} {H H1 : Hp}
theorem mu_putG {i c k : Nat} {b : Bool} {ms : List Mu} {p : Addr} {o' : HO} {v : V} {m : Mu} {wa : Option Addr} (S : StOk Λ env W σ H) (S1 : StOk Λ env W σ H1) (ev : Ev Λ W H H1) (he : env[i]? = some (.mu b c ms)) (hk : k ≤ ms.length)
    (hw : W i = some p) (hsh : ∀ o vs, H p = some o → vs.length = ms.length → Shp Λ.B c ms.length o vs → Shp Λ.B c (setM ms k m).length o' (setM vs k v)) (hwa : ∀ a, wa = some a → H a = none ∧ H1 a ≠ none) (h0 : ∀ Y' H', Same (hid (fun a => wa = some a) (Λ.vis W H1)) Y' → (∀ a o, wa = some a → H1 a = some o → H' a = some o) → MuU Λ.B Y' H' wa v m) :
    ∃ W', StOk Λ (env.set i (.mu b c (setM ms k m))) W' σ (upd H1 p o') ∧ Same (Λ.vis W H) (Λ.vis W' (upd H1 p o')) := by
  obtain ⟨p', ob, gs, hi, hw', hσ, hp, hn, ⟨hM, hMu⟩, hmu⟩ := mu_at S he
  rw [hw] at hw'
  cases hw'
  have hl : gs.length = ms.length := hmu.len
  have pn : ∀ k, W (sub i k) ≠ some p := fun k z => by
    have := S.wi _ _ _ hw z
    have := @sub_hi i k
    omega
  have wn : ∀ a, wa = some a → ¬ Λ.G W a ∧ a ≠ p := fun a z => ⟨fun g => hG S a g (hwa a z).1, fun e => (by rw [e] at z; have := (hwa p z).1; rw [hp] at this; cases this)⟩
  have kp : ∀ a o, a ≠ p → H1 a = some o → (upd H1 p o') a = some o := fun a o n h => by rw [upd_ne n]; exact h
  let u' : Nat → Option Addr := fun j => if j = k then wa else W (sub i j)
  have un : ∀ j a, u' j = some a → (j = k ∧ wa = some a) ∨ (j ≠ k ∧ W (sub i j) = some a) := fun j a z => by
    by_cases e : j = k
    · have z : (if j = k then wa else W (sub i j)) = some a := z
      rw [if_pos e] at z
      exact .inl ⟨e, z⟩
    · have z : (if j = k then wa else W (sub i j)) = some a := z
      rw [if_neg e] at z
      exact .inr ⟨e, z⟩
  have zu : ∀ a, ZU (Zof Λ W i p) p u' a → Λ.G W a ∨ wa = some a := fun a z => by
    rcases z with z | z | ⟨j, z⟩
    · exact .inl z.1
    · exact .inl (.inr (.inr ⟨i, z ▸ hw⟩))
    · rcases un j a z with ⟨_, z⟩ | ⟨_, z⟩
      · exact .inr z
      · exact .inl (.inr (.inr ⟨_, z⟩))
  have v0 : Same (hid (fun a => wa = some a) (Λ.vis W H1)) (hid (ZU (Zof Λ W i p) p u') (upd H1 p o')) := fun a o h => by
    obtain ⟨n1, h⟩ := hid_some.mp h
    obtain ⟨n2, h⟩ := hid_some.mp h
    exact hid_some.mpr ⟨fun z => (zu a z).elim n2 n1, kp a o (fun e => n2 (.inr (.inr ⟨i, e ▸ hw⟩))) h⟩
  have v1 : Same (Λ.vis W H) (hid (ZU (Zof Λ W i p) p u') (upd H1 p o')) := fun a o h => v0 a o (hid_some.mpr ⟨fun z => (by have := (hwa a z).1; rw [(hid_some.mp h).2] at this; cases this), ev.vis a o h⟩)
  have m1 := hsh ob gs hp hl hn
  have C : Chg Λ.B c (Zof Λ W i p) (fun a => H a = none) H1 (upd H1 p o') p (fun k => W (sub i k)) u' (setM ms k m) := by
    refine ⟨fun a o n _ h => kp a o n h, ⟨_, _, upd_same, m1, ?_⟩, fun j a z => ?_, fun j1 j2 a z1 z2 => ?_, ?_⟩
    · refine mus_put hk v1 (fun j a n z => ?_) (fun j a o n z h => ?_) ?_ hmu
      · show (if j = k then wa else W (sub i j)) = some a
        rw [if_neg n]
        exact z
      · exact kp a o (fun e => pn j (e ▸ z)) (ev.own _ _ _ z h)
      · show MuU _ _ _ (if k = k then wa else _) v m
        rw [if_pos rfl]
        exact h0 _ _ v0 fun a o z h => kp a o (wn a z).2 h
    · rcases un j a z with ⟨_, z⟩ | ⟨_, z⟩
      · exact ⟨fun y => (wn a z).1 y.1, (wn a z).2, by rw [upd_ne (wn a z).2]; exact (hwa a z).2, .inl (hwa a z).1⟩
      · have ne : a ≠ p := fun e => pn j (e ▸ z)
        exact ⟨fun y => y.2.2 j z, ne, by rw [upd_ne ne]; exact (S1.wx _ a z).1, .inr ⟨j, z⟩⟩
    · rcases un j1 a z1 with ⟨e1, y1⟩ | ⟨e1, y1⟩
      · rcases un j2 a z2 with ⟨e2, y2⟩ | ⟨e2, y2⟩
        · rw [e1, e2]
        · exact ((wn a y1).1 (.inr (.inr ⟨_, y2⟩))).elim
      · rcases un j2 a z2 with ⟨e2, y2⟩ | ⟨e2, y2⟩
        · exact ((wn a y2).1 (.inr (.inr ⟨_, y1⟩))).elim
        · exact (sub_inj hi hi (S.wi _ _ a y1 y2)).2
    · obtain ⟨n, hn⟩ := S.wf
      exact ⟨n + k + 1, fun j hj => by
        show (if j = k then wa else W (sub i j)) = none
        rw [if_neg (by omega)]
        exact hn _ (by unfold sub; omega)⟩
  obtain ⟨S3, v3, _⟩ := S.muCh S1 ev he hw C
  exact ⟨_, S3, v3⟩
theorem mu_put {i c k : Nat} {b : Bool} {ms : List Mu} {g : Str} {p dx : Addr} {gs : List (Str × V)} {v : V} {m : Mu} {wa : Option Addr} (S : StOk Λ env W σ H) (S1 : StOk Λ env W σ H1) (ev : Ev Λ W H H1) (he : env[i]? = some (.mu b c ms)) (ok : PutOk Λ.B g c k) (hk : k ≤ ms.length)
    (hw : W i = some p) (hp : H p = some (.ins (Λ.B.C c) dx gs)) (hwa : ∀ a, wa = some a → H a = none ∧ H1 a ≠ none) (h0 : ∀ Y' H', Same (hid (fun a => wa = some a) (Λ.vis W H1)) Y' → (∀ a o, wa = some a → H1 a = some o → H' a = some o) → MuU Λ.B Y' H' wa v m) (hc : c ≠ lstC := by decide) :
    ∃ W', StOk Λ (env.set i (.mu b c (setM ms k m))) W' σ (upd H1 p (.ins (Λ.B.C c) dx (putF g v gs))) ∧ Same (Λ.vis W H) (Λ.vis W' (upd H1 p (.ins (Λ.B.C c) dx (putF g v gs)))) := by
  refine mu_putG S S1 ev he hk hw (fun o vs h0 hl hs => ?_) hwa h0
  obtain ⟨dx', gs', rfl, e2, rfl⟩ := hs.ins hc
  rw [hp] at h0
  cases h0
  obtain ⟨m1, m2⟩ := put_at (v := v) (m := m) ok e2 (by rwa [List.length_map] at hl) hk
  exact .inr ⟨hc, dx, _, rfl, m1, m2.symm⟩
end
section
variable {X : Cx} {Λ : Lx} {w : WX} {a b e o i : Expr} {es : List Expr} {ta tb t : DE} {td : DDc} {u : DA} {pos p apos p1 p2 pos' : Pos} {y g : Str}
def dMuSet (i c k : Nat) (t : DE) : DS := fun env e => match env[i]? with
  | some (Sl.mu b c' ms) => t env (fun d => (c' = c ∧ k ≤ ms.length) ∧ e.nx (env.set i (.mu b c' (setM ms k (.va d))))) (e.ex env)
  | _ => False
theorem mu_len {gs : List (Str × V)} {ns : List Str} {n : Nat} (hn : gs.map (·.1) = ns.take n) (h : ns.length < 1000) : gs.length < 1000 := by
  have := congrArg List.length hn
  rw [List.length_map, List.length_take] at this
  omega
theorem xs_muSet {i c k : Nat} (ok : PutOk Λ.B g c k) (hf : (Λ.B.fl c).length < 1000) (ho : PE X (.Name y p1) (tVar i)) (he : XE X Λ w a t) (hs : swapsWith a (some (.Attribute (.Name y p1) g p2)) pos.line X.env = pure false := by rfl) (hc : c ≠ lstC := by decide) : XS X Λ w (.Assign [.Attribute (.Name y p1) g p2] a pos) (dMuSet i c k t) := ⟨fun hK => by
  obtain ⟨r, pe, s⟩ := he.ex hK
  refine ⟨_, ps_fld ho pe hs, fun env W σ H E e S L h => ?_⟩
  unfold dMuSet at h
  split at h
  case h_2 => exact h.elim
  rename_i b c' ms hd
  refine s env W σ H _ _ _ S L.xok h fun d v H1 h1 S1 e1 r1 => ?_
  obtain ⟨⟨rfl, hk⟩, h1⟩ := h1
  obtain ⟨q, dx, gs, hi, hw, hσ, hq, hn, _, hmu⟩ := mu_atI S hd hc
  refine ⟨_, hσ, q, _, dx, gs, rfl, e1.own i q _ hw hq, by rw [hK]; exact ok.1, by rw [hK]; exact ok.2.1, mu_len hn hf, ?_⟩
  obtain ⟨W', S2, s2⟩ := mu_put (v := v) (m := .va d) (wa := none) S S1 e1 hd ok hk hw hq (fun a z => by cases z) (fun Y' H' z _ => r1.up fun a o h => z a o (hid_some.mpr ⟨fun z => (by cases z), h⟩)) hc
  exact L.nx _ _ _ _ h1 S2 s2⟩
end
theorem rawP {P : Program} {w : World} {K : PySem.W.Frag} {mg : Str → Option Value} {base : Heap} {CX : CXT} {k : Nat} {f : Addr} {fd : FuncData} {ps : List Str} {sp : Sp} (F : FnOk P w K mg base CX k f fd ps sp) (hb : Binds K fd ps []) : FnR P w K mg base CX k f sp :=
  (F.raw hb .nil).imp fun vs H Q E h => by rw [List.append_nil]; exact h
end Eb

namespace Eb
open PySem PySem.Spec PyProof.Rows L2
mutual
def D.nd : D → Bool
  | .lst ds => ndL ds
  | .tup ds => ndL ds
  | .obj _ ds => ndL ds
  | .dic _ _ => false
  | .non => true
  | .bl _ => true
  | .int _ => true
  | .str _ => true
  | .ty _ => true
  | .cl _ => true
def ndL : List D → Bool
  | [] => true
  | d :: ds => d.nd && ndL ds
end
section
variable {B : Tb} {H H' : Hp}
theorem nd_seq {K : PySem.W.Frag} {a : Addr} {vs : List V} (s : ∀ a o, (∀ ob kvs, o ≠ .frz ob (.dK kvs)) → H a = some o → H' a = some o) (h : SqT K H a vs) : SqT K H' a vs := by
  rcases h with (h | ⟨o, h⟩) | h
  · exact .inl (.inl (s _ _ (fun _ _ z => by cases z) h))
  · exact .inl (.inr ⟨o, s _ _ (fun _ _ z => by cases z) h⟩)
  · exact .inr h
mutual
theorem Rep.nd (s : ∀ a o, (∀ ob kvs, o ≠ .frz ob (.dK kvs)) → H a = some o → H' a = some o) : ∀ (d : D) (v : V), d.nd = true → Rep B H d v → Rep B H' d v
  | .non, _, _, h => h
  | .bl _, _, _, h => h
  | .int _, _, _, h => h
  | .str _, _, _, h => h
  | .ty _, _, _, h => h
  | .cl _, _, _, h => h
  | .lst ds, _, n, ⟨a, vs, e, h, r⟩ => ⟨a, vs, e, s _ _ (fun _ _ z => by cases z) h, RepL.nd s ds vs (by rw [D.nd] at n; exact n) r⟩
  | .tup ds, _, n, ⟨a, vs, e, h, r⟩ => ⟨a, vs, e, nd_seq s h, RepL.nd s ds vs (by rw [D.nd] at n; exact n) r⟩
  | .obj _ ds, _, n, ⟨a, dx, gs, e, h, m, r⟩ => ⟨a, dx, gs, e, s _ _ (fun _ _ z => by cases z) h, m, RepL.nd s ds _ (by rw [D.nd] at n; exact n) r⟩
  | .dic _ _, _, n, _ => absurd n (by rw [D.nd]; exact Bool.false_ne_true)
theorem RepL.nd (s : ∀ a o, (∀ ob kvs, o ≠ .frz ob (.dK kvs)) → H a = some o → H' a = some o) : ∀ (ds : List D) (vs : List V), ndL ds = true → RepL B H ds vs → RepL B H' ds vs
  | [], _, _, h => h
  | d :: ds, _, n, ⟨v, r, e, h1, h2⟩ => ⟨v, r, e, Rep.nd s d v (by rw [ndL] at n; exact (Bool.and_eq_true_iff.mp n).1) h1, RepL.nd s ds r (by rw [ndL] at n; exact (Bool.and_eq_true_iff.mp n).2) h2⟩
end
end
end Eb

namespace Eb
open PySem PySem.Spec PyProof.Rows L2 StX
abbrev DWP := List Mu → (D → List Mu → Prop) → Prop
def Mu.own : Mu → Bool
  | .va _ => false
  | _ => true
def Mu.sl (k : Nat) : Mu → Sl
  | .va d => .va d
  | m => .pm k m
abbrev DAP := List Sl → (List Mu → Prop) → (DX → Prop) → Prop
end Eb

namespace Eb
open PySem PySem.Spec PyProof.Rows L2 StX
section
variable {Λ : Lx} {env : List Sl} {W : Ow} {σ : L2.St} {H H1 H' : Hp}
theorem StOk.newMuG {i c : Nat} {ms : List Mu} {p : Addr} {o : HO} {vs : List V} {u : Nat → Option Addr} (S : StOk Λ env W σ H) (S1 : StOk Λ env W σ H1) (ev : Ev Λ W H H1) (hi : i < env.length) (hz : env.length ≤ 1000) (hp : H p = none)
    (kp : ∀ a o, H a ≠ none → H1 a = some o → H' a = some o) (hp' : H' p = some o) (hs : Shp Λ.B c ms.length o vs) (hu : ∀ k a, u k = some a → H a = none ∧ H' a ≠ none ∧ a ≠ p) (inj : ∀ j k a, u j = some a → u k = some a → j = k) (fin : ∃ n, ∀ m, n ≤ m → u m = none)
    (hmu : MusU Λ.B (hid (ZU (Λ.G W) p u) H') H' u 0 ms vs) :
    ∃ W', StOk Λ (env.set i (.mu false c ms)) W' (σ.set i (some (.ref p))) H' ∧ Same (Λ.vis W H) (Λ.vis W' H') ∧ ∀ a, Λ.G W' a → ZU (Λ.G W) p u a := by
  have el := S.len
  have hi' : i < 1000 := by omega
  let W' : Ow := fun j => if j = i then some p else wSub W i u j
  have unw : ∀ j a, W' j = some a → (j = i ∧ a = p) ∨ (∃ k, j = sub i k ∧ u k = some a) ∨ (j ≠ i ∧ (∀ k, j ≠ sub i k) ∧ W j = some a) := fun j a h => by
    have h : (if j = i then some p else wSub W i u j) = some a := h
    split at h
    · rename_i e
      cases h
      exact .inl ⟨e, rfl⟩
    · rename_i n
      rcases wSub_or h with z | ⟨z1, z2⟩
      · exact .inr (.inl z)
      · exact .inr (.inr ⟨n, fun k e => z1 k (by rw [e]; exact subK_sub hi'), z2⟩)
  have ni : ∀ l k, sub l k ≠ i := fun l k e => by
    have := @sub_hi l k
    omega
  have inw : ∀ j a, j ≠ i → (∀ k, j ≠ sub i k) → W j = some a → W' j = some a := fun j a n1 n2 h => by
    show (if j = i then some p else wSub W i u j) = some a
    rw [if_neg n1, wSub_ne n2]
    exact h
  have wi' : W' i = some p := if_pos rfl
  have ws' : ∀ k, W' (sub i k) = u k := fun k => by
    show (if sub i k = i then some p else wSub W i u (sub i k)) = u k
    rw [if_neg (ni i k), wSub_sub hi']
  have G' : ∀ a, Λ.G W' a → ZU (Λ.G W) p u a := fun a g => by
    rcases g with z | z | ⟨j, z⟩
    · exact .inl (.inl z)
    · exact .inl (.inr (.inl z))
    · rcases unw _ _ z with ⟨_, rfl⟩ | ⟨k, _, z⟩ | ⟨_, _, z⟩
      · exact .inr (.inl rfl)
      · exact .inr (.inr ⟨k, z⟩)
      · exact .inl (.inr (.inr ⟨j, z⟩))
  have all : ∀ a, H a ≠ none → H' a ≠ none := fun a h => by
    cases e : H a with
    | none => exact absurd e h
    | some o =>
      cases e1 : H1 a with
      | none => exact absurd e1 (ev.all a h)
      | some o1 => rw [kp a o1 h e1]; simp
  have v1 : Same (Λ.vis W H) (Λ.vis W' H') := hid_grow fun a o g h => by
    refine ⟨fun g' => ?_, kp a o (by rw [h]; simp) (hid_some.mp (ev.vis a o (hid_some.mpr ⟨g, h⟩))).2⟩
    rcases G' a g' with z | rfl | ⟨k, z⟩
    · exact g z
    · rw [hp] at h
      cases h
    · rw [(hu k a z).1] at h
      cases h
  refine ⟨W', ⟨by rw [List.length_set, List.length_set]; exact el, fun l s e => ?_, fun a o m h0 => kp a o (by rw [S.fr a o m h0]; simp) (S1.fr a o m h0), fun a m => all a (S.mx a m), fun a z => all a (S.zx a z), fun j a e => ?_, fun j1 j2 a e1 e2 => ?_, fun d l ed => ?_, ?_⟩, v1, G'⟩
  · by_cases li : l = i
    · subst li
      rw [List.getElem?_set_self hi] at e
      cases e
      refine ⟨by rw [List.length_set, el]; exact hz, p, o, vs, wi', List.getElem?_set_self (by rw [el]; exact hi), hp', ⟨hs, ⟨fun m => absurd hp (S.mx _ m), fun z => (by cases z)⟩, fun k a z m => ?_⟩, musU.mpr (hmu.gen (hid_anti G') (fun k a _ z => (ws' k).trans z) fun _ _ _ _ _ h => h)⟩
      rw [ws'] at z
      exact S.mx a m (hu k a z).1
    · rw [List.getElem?_set_ne (Ne.symm li)] at e
      have ll := (List.getElem?_eq_some_iff.mp e).1
      refine (S.sl l s e).genS (List.length_set ..) (List.getElem?_set_ne (Ne.symm li)) v1 (fun j a hj h => ?_) (fun j a o hj h ha => kp a o (by rw [ha]; simp) (ev.own _ _ _ h ha)) fun k a z => ?_
      · rcases hj with rfl | ⟨_, k, rfl⟩
        · exact inw _ _ li (fun k z => by have := @sub_hi i k; omega) h
        · exact inw _ _ (ni _ _) (fun k' z => li (sub_inj (by omega) hi' z).1) h
      · rcases unw _ _ z with ⟨y, _⟩ | ⟨k', y, _⟩ | ⟨_, _, y⟩
        · exact absurd y (ni _ _)
        · exact absurd (sub_inj (by omega) hi' y).1 li
        · exact .inl y
  · rcases unw _ _ e with ⟨_, rfl⟩ | ⟨k, _, z⟩ | ⟨_, _, z⟩
    · exact ⟨by rw [hp']; simp, fun z => S.zx _ z hp, .inl (S.fresh0 hp)⟩
    · exact ⟨(hu k a z).2.1, fun y => S.zx _ y (hu k a z).1, .inl (S.fresh0 (hu k a z).1)⟩
    · exact ⟨all a (S.wx _ _ z).1, (S.wx _ _ z).2⟩
  · rcases unw _ _ e1 with ⟨x1, y1⟩ | ⟨k1, x1, y1⟩ | ⟨n1, n2, y1⟩
    · rcases unw _ _ e2 with ⟨x2, y2⟩ | ⟨k2, x2, y2⟩ | ⟨m1, m2, y2⟩
      · rw [x1, x2]
      · exact absurd y1 (hu k2 a y2).2.2
      · exact absurd (y1 ▸ hp) (S.wx _ _ y2).1
    · rcases unw _ _ e2 with ⟨x2, y2⟩ | ⟨k2, x2, y2⟩ | ⟨m1, m2, y2⟩
      · exact absurd y2 (hu k1 a y1).2.2
      · rw [x1, x2, inj _ _ _ y1 y2]
      · exact absurd (hu k1 a y1).1 (S.wx _ _ y2).1
    · rcases unw _ _ e2 with ⟨x2, y2⟩ | ⟨k2, x2, y2⟩ | ⟨m1, m2, y2⟩
      · exact absurd (y2 ▸ hp) (S.wx _ _ y1).1
      · exact absurd (hu k2 a y2).1 (S.wx _ _ y1).1
      · exact S.wi _ _ _ y1 y2
  · obtain ⟨D0, md, ml, nw⟩ := S.dl d l ed
    have hn : ∀ a ∈ [d, l], ∀ j, W' j ≠ some a := fun a ha j z => by
      rcases unw _ _ z with ⟨_, rfl⟩ | ⟨k, _, z⟩ | ⟨_, _, z⟩
      · exact D0.none _ ha hp
      · exact D0.none _ ha (hu k a z).1
      · rcases List.mem_cons.mp ha with rfl | ha
        · exact (nw j).1 z
        · rw [List.mem_singleton.mp ha] at z
          exact (nw j).2 z
    exact ⟨(S1.dl d l ed).1.at_ fun a o ha h => kp a o (D0.none a ha) h, md, ml, fun j => ⟨hn d (by simp) j, hn l (by simp) j⟩⟩
  · obtain ⟨n, hn⟩ := S.wf
    obtain ⟨n2, hn2⟩ := fin
    refine ⟨n + i + 1 + sub i n2, fun m hm => ?_⟩
    cases e : W' m with
    | none => rfl
    | some a =>
      rcases unw _ _ e with ⟨y, _⟩ | ⟨k, y, z⟩ | ⟨_, _, z⟩
      · omega
      · rw [hn2 k (by unfold sub at hm y; omega)] at z
        cases z
      · rw [hn m (by omega)] at z
        cases z
end
end Eb

namespace Eb
open PySem PySem.Spec PyProof.Rows L2 StX
section
variable {X : Cx} {Λ : Lx} {w : WX} {a b e o : Expr} {es : List Expr} {ta tb t : DE} {tm : DM} {u : DA} {pos p apos p1 p2 p3 p4 p5 p6 : Pos} {k : Nat} {f : Addr} {fd : FuncData} {ps : List Str} {wp : DWM} {y g : Str}
theorem mus_va {B : Tb} {Y H : Hp} {u : Nat → Option Addr} : ∀ {ds : List D} {vs : List V} {k : Nat}, RepL B Y ds vs → MusU B Y H u k (ds.map .va) vs
  | [], _, _, h => h
  | d :: ds, _, k, ⟨v, r, e, h1, h2⟩ => ⟨v, r, e, h1, mus_va h2⟩
end
end Eb

namespace Eb
open PySem PySem.Spec PyProof.Rows L2 StX
end Eb

namespace Eb
open PySem PySem.Spec PyProof.Rows L2 StX
mutual
def D.nld : D → Bool
  | .lst _ => false
  | .tup ds => nldL ds
  | .obj _ ds => nldL ds
  | .dic _ _ => false
  | .non => true
  | .bl _ => true
  | .int _ => true
  | .str _ => true
  | .ty _ => true
  | .cl _ => true
def nldL : List D → Bool
  | [] => true
  | d :: ds => d.nld && nldL ds
end
section
variable {B : Tb} {H H' : Hp}
def nldO (o : HO) : Prop := (∀ vs, o ≠ .lst vs) ∧ ∀ o' kvs, o ≠ .frz o' (.dK kvs)
theorem nld_seq {K : PySem.W.Frag} {a : Addr} {vs : List V} (s : ∀ a o, nldO o → H a = some o → H' a = some o) (h : SqT K H a vs) : SqT K H' a vs := by
  rcases h with (h | ⟨o, h⟩) | h
  · exact .inl (.inl (s _ _ ⟨fun _ z => (by cases z), fun _ _ z => by cases z⟩ h))
  · exact .inl (.inr ⟨o, s _ _ ⟨fun _ z => (by cases z), fun _ _ z => by cases z⟩ h⟩)
  · exact .inr h
mutual
theorem Rep.nld (s : ∀ a o, nldO o → H a = some o → H' a = some o) : ∀ (d : D) (v : V), d.nld = true → Rep B H d v → Rep B H' d v
  | .non, _, _, h => h
  | .bl _, _, _, h => h
  | .int _, _, _, h => h
  | .str _, _, _, h => h
  | .ty _, _, _, h => h
  | .cl _, _, _, h => h
  | .lst ds, _, n, _ => absurd n (by rw [D.nld]; exact Bool.false_ne_true)
  | .tup ds, _, n, ⟨a, vs, e, h, r⟩ => ⟨a, vs, e, nld_seq s h, RepL.nld s ds vs (by rw [D.nld] at n; exact n) r⟩
  | .obj _ ds, _, n, ⟨a, dx, gs, e, h, m, r⟩ => ⟨a, dx, gs, e, s _ _ ⟨fun _ z => (by cases z), fun _ _ z => by cases z⟩ h, m, RepL.nld s ds _ (by rw [D.nld] at n; exact n) r⟩
  | .dic _ ds, _, n, _ => absurd n (by rw [D.nld]; exact Bool.false_ne_true)
theorem RepL.nld (s : ∀ a o, nldO o → H a = some o → H' a = some o) : ∀ (ds : List D) (vs : List V), nldL ds = true → RepL B H ds vs → RepL B H' ds vs
  | [], _, _, h => h
  | d :: ds, _, n, ⟨v, r, e, h1, h2⟩ => ⟨v, r, e, Rep.nld s d v (by rw [nldL] at n; exact (Bool.and_eq_true_iff.mp n).1) h1, RepL.nld s ds r (by rw [nldL] at n; exact (Bool.and_eq_true_iff.mp n).2) h2⟩
end
end
section
variable {X : Cx} {Λ : Lx} {w : WX} {a b e : Expr} {ta tb t : DE} {u : DA} {pos p p1 p2 p3 : Pos} {y : Str}
def tlOf (Λ : Lx) (w : WX) (t : DA) : TE := fun σ H Q => ∃ env W q x, StOk Λ env W σ H ∧ XOk Λ w env W σ H x ∧ t env q x ∧ (∀ ds p vs H', q ds → StOk Λ env W σ H' → Ev Λ W H H' → H p = none → H' p = some (.lst vs) → RepL Λ.B (hid (fun a => a = p) (Λ.vis W H')) ds vs → Q (.ref p) H')
theorem XL.pe (h : XL X Λ w a u) (hK : X.K = Λ.B.K) : PE X a (tlOf Λ w u) := by
  obtain ⟨r, p, s⟩ := h.ex hK
  exact ⟨fun pins s' σ H Q I ⟨env, W, q, x, S, hx, hh, k⟩ => p.run pins s' σ H Q I (s env W σ H Q q x S hx hh k)⟩
def LLOk (B : Tb) (H1 Y : Hp) (acc : List (List D)) (as : List Addr) : Prop := as.length = acc.length ∧ as.Nodup ∧ (∀ a ∈ as, H1 a = none) ∧ ∀ (k : Nat) (y : List D) (a : Addr), acc[k]? = some y → as[k]? = some a → nldL y = true ∧ ∃ us, Y a = some (.lst us) ∧ RepL B Y y us
theorem LLOk.up {B : Tb} {H1 Y Y' : Hp} {acc : List (List D)} {as : List Addr} (h : LLOk B H1 Y acc as) (s : Same Y Y') : LLOk B H1 Y' acc as := ⟨h.1, h.2.1, h.2.2.1, fun k y a e1 e2 => by
  obtain ⟨n, us, h1, h2⟩ := h.2.2.2 k y a e1 e2
  exact ⟨n, us, s _ _ h1, h2.up s⟩⟩
theorem LLOk.snoc {B : Tb} {H1 Y : Hp} {acc : List (List D)} {as : List Addr} {y : List D} {a : Addr} {us : List V} (h : LLOk B H1 Y acc as) (hn : a ∉ as) (h1 : H1 a = none) (hy : nldL y = true) (h2 : Y a = some (.lst us)) (h3 : RepL B Y y us) : LLOk B H1 Y (acc ++ [y]) (as ++ [a]) := by
  obtain ⟨l, nd, fr, it⟩ := h
  refine ⟨by rw [List.length_append, List.length_append, l]; rfl, ?_, fun b hb => ?_, fun k y' a' e1 e2 => ?_⟩
  · refine List.nodup_append.mpr ⟨nd, List.nodup_cons.mpr ⟨by simp, .nil⟩, fun b hb c hc e => ?_⟩
    rw [List.mem_singleton.mp hc] at e
    exact hn (e ▸ hb)
  · rcases List.mem_append.mp hb with hb | hb
    · exact fr b hb
    · rw [List.mem_singleton.mp hb]
      exact h1
  · by_cases hk : k < acc.length
    · rw [List.getElem?_append_left hk] at e1
      rw [List.getElem?_append_left (by omega)] at e2
      exact it k y' a' e1 e2
    · rw [List.getElem?_append_right (by omega)] at e1
      rw [List.getElem?_append_right (by omega), l] at e2
      cases e : k - acc.length with
      | zero =>
        rw [e] at e1 e2
        cases e1
        cases e2
        exact ⟨hy, us, h2, h3⟩
      | succ j =>
        rw [e] at e1
        cases e1
abbrev DWL := List D → (List D → Prop) → Prop
def spIL (B : Tb) (c : Nat) (wp : DWL) : Sp := fun vs H Q _ => ∃ (Z : Addr → Prop) (rs : List D) (q : List D → Prop) (p dx l : Addr) (us : List V), vs = [.ref p, .ref l] ∧ H p = some (.ins (B.C c) dx []) ∧ ¬ Z p ∧ (∀ a, Z a → H a ≠ none) ∧ H l = some (.lst us) ∧ Z l ∧ RepL B (hid (fun a => Z a ∨ a = p) H) rs us ∧
  wp rs q ∧ ∀ fs H' dy gs, q fs → (∀ a o, a ≠ p → H a = some o → H' a = some o) → H' p = some (.ins (B.C c) dy gs) → gs.map (·.1) = B.fl c → RepL B (hid (fun a => Z a ∨ a = p) H') fs (gs.map (·.2)) → Q .non H'
def wpIL (c nf m : Nat) (t1 t2 : DS) : DWL := fun rs q => t1 (.se c [] :: .va (.lst rs) :: List.replicate m .un) ⟨fun env => ∃ d z, env = .se c [d] :: z ∧ z.length = m + 1 ∧ D.nld d = true ∧ t2 (.se c [d] :: List.replicate (m + 1) .un) (endsI c nf q (fun _ => False)), fun _ _ => False, fun _ => False, fun _ => False, fun _ _ => False⟩
theorem st_lent {B : Tb} {Z : Addr → Prop} {H H' : Hp} {c m : Nat} {p l : Addr} {us : List V} {d : D} {z : List Sl} {W' : Ow} {σ' : L2.St} (hl : H l = some (.lst us)) (hz : ¬ Z p) (zl : Z l) (hn : z.length = m + 1) (hd : d.nld = true)
    (S' : StOk ⟨B, fun a => Z a ∧ a ≠ l, fun a => a = p, H, none⟩ (.se c [d] :: z) W' σ' H') : StOk ⟨B, Z, fun a => a = p, H, none⟩ (.se c [d] :: List.replicate (m + 1) .un) W' σ' H' := by
  have pl : l ≠ p := fun e => hz (e ▸ zl)
  have h'l : H' l = some (.lst us) := S'.fr l _ pl hl
  refine ⟨by have := S'.len; rw [List.length_cons] at this ⊢; rw [List.length_replicate]; omega, fun i s e => ?_, S'.fr, S'.mx, fun a ha => ?_, fun i a e => ?_, S'.wi, fun d l e => (by cases e), S'.wf⟩
  · cases i with
    | zero =>
      cases e
      obtain ⟨p', dx', gs, h0, h1, h2, h3, h4⟩ := S'.sl 0 _ rfl
      refine ⟨p', dx', gs, h0, h1, h2, h3, RepL.nld (fun a o no ha => ?_) [d] _ (by rw [nldL, hd]; rfl) h4⟩
      obtain ⟨g, ha⟩ := hid_some.mp ha
      refine hid_some.mpr ⟨fun y => ?_, ha⟩
      rcases y with y | y | y
      · refine g (.inl ⟨y, fun e => ?_⟩)
        rw [e, h'l] at ha
        cases ha
        exact no.1 _ rfl
      · exact g (.inr (.inl y))
      · exact g (.inr (.inr y))
    | succ i =>
      rw [List.getElem?_cons_succ] at e
      have := (List.getElem?_eq_some_iff.mp e)
      obtain ⟨hi, e⟩ := this
      rw [List.getElem_replicate] at e
      rw [← e]
      trivial
  · by_cases e : a = l
    · rw [e, h'l]; simp
    · exact S'.zx a ⟨ha, e⟩
  · obtain ⟨w1, w2, w3⟩ := S'.wx i a e
    refine ⟨w1, fun y => ?_, w3⟩
    by_cases e2 : a = l
    · rw [e2] at w3
      rcases w3 with w3 | w3
      · rw [show (⟨B, fun a => Z a ∧ a ≠ l, fun a => a = p, H, none⟩ : Lx).H0 l = H l from rfl, hl] at w3
        cases w3
      · exact pl w3
    · exact w2 ⟨y, e2⟩
section
variable {P : Program} {w' : World} {K : PySem.W.Frag} {mg : Str → Option Value} {base : Heap} {name qual : Str} {st : Stmt} {f : Addr} {N ps : List Str} {k : Nat} {B : Tb} {c : Nat}
theorem fnI0L (F : FunDf K name qual st f) (S : FnScope N ps (defScope st)) (hba : BindAll K name qual st ps 1) {t1 t2 : DS} {nf m : Nat} {s1 : Stmt} {rest : List Stmt} (hn : ps.length = 2) (hN : N.length = 2 + m) (hK : K = B.K) (hfl : (B.fl c).length = nf) (hb : defBody st = s1 :: rest)
    (body1 : ∀ (cdv : Value) (A : Around) (outer : List Env) (s : Shared) (H : Hp) (E : XK) (Z M : Addr → Prop) (H0 : Hp) (dl : Option (Addr × Addr)), Room k (A.deeper (envOfC qual (defScope st) s.heap.objs.size f cdv)) →
      XS (cxOf CX0 P w' K mg base N qual (defScope st) f cdv A outer s H E).nox ⟨B, Z, M, H0, dl⟩ w0 s1 t1)
    (body2 : ∀ (cdv : Value) (A : Around) (outer : List Env) (s : Shared) (H : Hp) (E : XK) (Z M : Addr → Prop) (H0 : Hp) (dl : Option (Addr × Addr)), Room k (A.deeper (envOfC qual (defScope st) s.heap.objs.size f cdv)) →
      XSs (cxOf CX0 P w' K mg base N qual (defScope st) f cdv A outer s H E).nox ⟨B, Z, M, H0, dl⟩ w0 rest t2) : FnR P w' K mg base CX0 (k + 1) f (spIL B c (wpIL c nf m t1 t2)) := by
  obtain ⟨oc, od, osl, dV, kV, doc, pm, an, ct, cda, T2, lk, hcd, hdf, hdt⟩ := F.ex
  have FO : FnOk P w' K mg base CX0 (k + 1) f (HK.fnC name qual st [] dV kV doc pm an (.ref cda) ct) ps (spIL B c (wpIL c nf m t1 t2)) :=
    fn_of lk hcd S (fun vs H Q E ⟨Z, rs, _, p, dx, l, us, e, _⟩ => by rw [e, hn]; rfl) fun A outer s H vs Q E hr ⟨Z, rs, q, p, dx, l, us, e, hp, hz, hZ, hl, zl, r, ht, kq⟩ => by
      subst e
      rw [hb]
      obtain ⟨r1, p1, q1⟩ := (body1 (.ref cda) A outer s H E (fun a => Z a ∧ a ≠ l) (fun a => a = p) H none hr).ex hK
      obtain ⟨r2, p2, q2⟩ := (body2 (.ref cda) A outer s H E Z (fun a => a = p) H none hr).ex hK
      have pl : l ≠ p := fun e => hz (e ▸ zl)
      have rl : RepL B (hid (fun a => (Z a ∧ a ≠ l) ∨ a = p) H) [.lst rs] [.ref l] := .one ⟨l, us, rfl, hid_some.mpr ⟨fun y => y.elim (fun y => y.2 rfl) pl, hl⟩, r.up (hid_anti fun a y => y.imp (fun y => y.1) id)⟩
      have S1 : StOk ⟨B, fun a => Z a ∧ a ≠ l, fun a => a = p, H, none⟩ (.se c [] :: .va (.lst rs) :: List.replicate m .un) (wput (fun _ => none) 0 (some p)) (L2.start N [.ref p, .ref l]) H := st_startI (ds := [.lst rs]) (vs := [.ref l]) (m := m) hp (fun y => hz y.1) (fun a y => hZ a y.1) rl (by rw [hN]; rfl)
      have L := initL (Z := Z) (q := q) (Q := Q) hp hfl kq
      refine ⟨_, (pss_cons p1 p2).nox, q1 _ _ _ _ _ ⟨fun env => ∃ d z, env = .se c [d] :: z ∧ z.length = m + 1 ∧ D.nld d = true ∧ t2 (.se c [d] :: List.replicate (m + 1) .un) (endsI c nf q (fun _ => False)), fun _ _ => False, fun _ => False, fun _ => False, fun _ _ => False⟩ S1 ⟨fun env' W' σ' H' h S' s' => ?_, fun _ _ _ _ z => z.elim, fun _ _ _ _ z => z.elim, fun _ _ _ _ _ _ z => z.elim, fun _ _ _ _ _ _ _ z => z.elim⟩ ht⟩
      obtain ⟨d, z, rfl, hn, hd, h2⟩ := h
      have S2 := st_lent hl hz zl hn hd S'
      refine q2 _ W' σ' H' _ _ S2 (L.on fun a o h => ?_) h2
      obtain ⟨g, h⟩ := hid_some.mp h
      obtain ⟨g', h'⟩ := hid_some.mp (s' a o (hid_some.mpr ⟨fun y => g (y.imp (fun y => y.1) id), h⟩))
      refine hid_some.mpr ⟨fun y => ?_, h'⟩
      rcases y with y | y | y
      · exact g (.inl y)
      · exact g (.inr (.inl y))
      · exact g' (.inr (.inr y))
  exact raw0 FO (hba _ _ _ _ _ _ _ _ hdf)
end
theorem make_iL {env : List Sl} {W : Ow} {σ : L2.St} {H : Hp} {Q : VK} {q : D → Prop} {E : XK} {rs : List D} {us : List V} {cc : Nat} {wp : DWL} {x dx l : Addr} (S : StOk Λ env W σ H) (gl : Λ.G W l) (hl : H l = some (.lst us)) (r : RepL Λ.B (Λ.vis W H) rs us) (h : wp rs (fun fs => q (.obj cc fs)))
    (k : ∀ d v H', q d → StOk Λ env W σ H' → Ev Λ W H H' → Rep Λ.B (Λ.vis W H') d v → Q v H') (hx : H x = none) (hdx : H dx = none) (hne : dx ≠ x) :
    spIL Λ.B cc wp [.ref x, .ref l] (upd (upd H dx (.own x)) x (.ins (Λ.B.C cc) dx [])) (fun v H2 => v = .non ∧ Q (.ref x) H2) E := by
  have s1 := made_same (C := Λ.B.C cc) hx hdx
  have nx : ¬ Λ.G W x := S.fresh hx
  refine ⟨Λ.G W, rs, _, x, dx, l, us, rfl, upd_same, nx, fun a g => some_mono s1 (hG S a g), s1 _ _ hl, gl, r.up ?_, h, fun fs H' dy gs hq grow hp hn rl => ⟨rfl, ?_⟩⟩
  · intro a o ha
    obtain ⟨g, ha⟩ := hid_some.mp ha
    have n : a ≠ x := ne_of_none ha hx
    exact hid_some.mpr ⟨fun z => z.elim g n, s1 _ _ ha⟩
  · have s2 : Same H H' := fun a o ha => grow a o (ne_of_none ha hx) (s1 _ _ ha)
    refine k _ _ H' hq (S.grow s2) (.of s2) ⟨x, dy, gs, rfl, hid_some.mpr ⟨nx, hp⟩, hn, rl.up (hid_anti fun a g => .inl g)⟩
def dMkLo (cc : Nat) (wp : DWL) (i : Nat) : DE := fun env q _ => match env[i]? with
  | some (.ow rs) => wp rs (fun fs => q (.obj cc fs))
  | _ => False
theorem xe_mkLo {cc k i : Nat} {f : Addr} {wp : DWL} {z : Str} (ho : PE X (.Name y p1) (tVar i)) (M : Mk X.K (Λ.B.C cc) f) (F : FnR X.prog X.w X.K X.mg X.base CX0 k f (spIL Λ.B cc wp)) (hr : Room (k + 1) X.A) (hg : Gl X z) (hm : X.mg z = some (.ref (Λ.B.C cc))) (hdb : (z == ("__debug__" : Str)) = false := by decide)
    (he : starEach [.Name y p1] X.env = (false, eval (.Name y p1) X.env) :: starEach [] X.env := by rfl) (hpl : (backTo pos (starEach [] X.env)).any (·.1) = false := by rfl) : XE X Λ w (.Call (.Name z p) [.Name y p1] [] pos) (dMkLo cc wp i) := ⟨fun hK => by
  refine ⟨_, pe_makeR M F hr hg hm pass0 (pa_cons ho pa_nil he) hdb he hpl, fun env W σ H Q q x S hx h k => ?_⟩
  unfold dMkLo at h
  split at h
  case h_2 => exact h.elim
  rename_i rs hd
  obtain ⟨l, us, hw, hσ, hl, rl, _⟩ := own_at S hd
  exact ⟨_, hσ, fun x dx h2 h3 h4 => make_iL S (.inr (.inr ⟨_, hw⟩)) hl rl h k h2 h3 h4⟩⟩
end
end Eb

namespace Eb
open PySem PySem.Spec PySem.W PyProof.Rows
section
variable {prog : Program} {w : World} {A : Around} {E : Value → Shared → Prop} {s : Shared} {K : Frag} {x C L f : Addr} {h₀ : Heap} {m : Str → Option Value} {ox : Obj} {od : Option Obj}
theorem fillsI {M : Model} {h : Heap} {nm : String} {add : Bool} {cd : ClassData} {rest : List Value} (X : K.In h) (hcd : clsIn K C = some cd) (hm : cd.mro = .ref C :: rest) (hs : findIn K (.ref C) (dunderI nm) = some (some (.ref f))) : Looks M h (fillsInplaceSlot (.ref C) nm add) true := by
  intro A Q E s k q
  have Lm : Looks M h (mroOf (.ref C)) cd.mro := (looks_clsIn X hcd).andThen (f := fun cd => pure cd.mro) .now
  have Lm' := Lm.keeps k
  obtain ⟨hh, gg, d, tt, os⟩ := s
  have X' : K.In hh := X.keeps k
  have L1 : Looks M hh (typeLookup (.ref C) (dunderI nm)) (some (.ref f)) := looks_findIn X' hs
  unfold fillsInplaceSlot
  refine wpAny_bind (Lm'.at ?_)
  rw [hm, List.anyM_cons]
  repeat lk
  exact q
theorem ip_own {op : Operator} {y : Value} {Q : Value → Shared → Prop} (F : Fr h₀ L s.heap m) (X₀ : K.In h₀) (I : PySem.W.InstAt s.heap x ox C od) (hc : selfFirst K C = true)
    (hs : findIn K (.ref C) (dunderI op.info.2) = some (some (.ref f))) (hf : isFn K (.ref f) = true) (h : wpAny (model prog w) A (call (.ref f) [.ref x, y]) (PySem.W.CmpBack Q) E s) : wpAny (model prog w) A (inplaceOp op (.ref x) y) Q E s := by
  have X := X₀.keeps F.keep
  obtain ⟨cd, rest, hcd, hm⟩ := ksp_first hc
  have one := ksp_try X I hs hf h
  obtain ⟨hh, gg, d, tt, os⟩ := s
  have L1 : Looks (model prog w) hh (typeOf (.ref x)) (.ref C) := I.type
  have L2 : Looks (model prog w) hh (fillsInplaceSlot (.ref C) op.info.2 (op == .Add)) true := fillsI X hcd hm hs
  unfold inplaceOp
  refine wpAny_holding ?_
  refine wpAny_bind (L1.at (wpAny_bind (L2.at ?_)))
  simp only [if_true]
  refine wpAny_bind (wpAny_mono one (fun r s' hr' => ?_) fun _ _ e => e)
  obtain ⟨v, rfl, hq⟩ := hr'
  ksp_lk
  exact hq
theorem seq_key {i : Value} {b : Bool} {nm : Str} {Q : Value → Shared → Prop} (X : K.In s.heap) (I : PySem.W.InstAt s.heap x ox C od) (hd : subIn K (.ref C) (.type "collections.deque") = some b)
    (hs : findIn K (.ref C) nm = some (some (.ref f))) (q : Q i s) : wpAny (model prog w) A (sequenceKey (.ref x) i nm) Q E s := by
  obtain ⟨hh, gg, d, tt, os⟩ := s
  have L1 : Looks (model prog w) hh (typeOf (.ref x)) (.ref C) := I.type
  have L2 : Looks (model prog w) hh (isSubtype (.ref C) (.type "collections.deque")) b := looks_subIn X hd
  have L3 : Looks (model prog w) hh (typeLookup (.ref C) nm) (some (.ref f)) := looks_findIn X hs
  unfold sequenceKey
  refine wpAny_bind (L1.at ?_)
  unfold seqItemTypes
  dsimp only
  rw [List.anyM_cons]
  cases b
  · repeat lk
    exact q
  · repeat lk
    exact q
theorem set_own {i v : Value} {b : Bool} {Q : Unit → Shared → Prop} (F : Fr h₀ L s.heap m) (X₀ : K.In h₀) (I : PySem.W.InstAt s.heap x ox C od) (hd : subIn K (.ref C) (.type "collections.deque") = some b)
    (hs : findIn K (.ref C) "__setitem__" = some (some (.ref f))) (hf : isFn K (.ref f) = true) (h : wpAny (model prog w) A (call (.ref f) [.ref x, i, v]) (fun _ s => Q () s) E s) : wpAny (model prog w) A (setItem (.ref x) i v) Q E s := by
  have X := X₀.keeps F.keep
  unfold setItem
  refine wpAny_holding (wpAny_bind (seq_key X I hd hs (wpAny_bind (special_fn X I hs (beq_iff_eq.mp hf) (wpAny_mono h (fun v s' z => wpAny_pure z) fun _ _ z => z)))))
end
end Eb
namespace Eb
open PySem PySem.Spec PyProof.Rows L2 StX
def Mu.isVa : Mu → Bool
  | .va _ => true
  | _ => false
def SelfO (B : Tb) (c : Nat) (o : HO) : Prop := ∃ dx gs, o = .ins (B.C c) dx gs ∧ gs.map (·.1) = B.fl c
def OkV (B : Tb) (c : Nat) (ok : D → Bool) : Prop := ∀ d v (Y Y' : Hp), ok d = true → (∀ a o, ¬ SelfO B c o → Y a = some o → Y' a = some o) → Rep B Y d v → Rep B Y' d v
mutual
def D.nob (c : Nat) : D → Bool
  | .lst ds => nobL c ds
  | .tup ds => nobL c ds
  | .obj c' ds => !(c' == c) && nobL c ds
  | .dic _ ds => nobL c ds
  | .non => true
  | .bl _ => true
  | .int _ => true
  | .str _ => true
  | .ty _ => true
  | .cl _ => true
def nobL (c : Nat) : List D → Bool
  | [] => true
  | d :: ds => d.nob c && nobL c ds
end
section
variable {B : Tb} {H H' : Hp} {c : Nat}
theorem nob_seq {K : PySem.W.Frag} {a : Addr} {vs : List V} (s : ∀ a o, ¬ SelfO B c o → H a = some o → H' a = some o) (h : SqT K H a vs) : SqT K H' a vs := by
  rcases h with (h | ⟨o, h⟩) | h
  · exact .inl (.inl (s _ _ (fun ⟨_, _, e, _⟩ => by cases e) h))
  · exact .inl (.inr ⟨o, s _ _ (fun ⟨_, _, e, _⟩ => by cases e) h⟩)
  · exact .inr h
mutual
theorem Rep.nob (hf : ∀ c', c' ≠ c → B.fl c' ≠ B.fl c) (s : ∀ a o, ¬ SelfO B c o → H a = some o → H' a = some o) : ∀ (d : D) (v : V), d.nob c = true → Rep B H d v → Rep B H' d v
  | .non, _, _, h => h
  | .bl _, _, _, h => h
  | .int _, _, _, h => h
  | .str _, _, _, h => h
  | .ty _, _, _, h => h
  | .cl _, _, _, h => h
  | .lst ds, _, n, ⟨a, vs, e, h, r⟩ => ⟨a, vs, e, s _ _ (fun ⟨_, _, e, _⟩ => by cases e) h, RepL.nob hf s ds vs (by rw [D.nob] at n; exact n) r⟩
  | .tup ds, _, n, ⟨a, vs, e, h, r⟩ => ⟨a, vs, e, nob_seq s h, RepL.nob hf s ds vs (by rw [D.nob] at n; exact n) r⟩
  | .obj c' ds, _, n, ⟨a, dx, gs, e, h, m, r⟩ => by
    rw [D.nob] at n
    obtain ⟨n1, n2⟩ := Bool.and_eq_true_iff.mp n
    refine ⟨a, dx, gs, e, s _ _ (fun ⟨dx2, gs2, e2, m2⟩ => ?_) h, m, RepL.nob hf s ds _ n2 r⟩
    injection e2 with e3 e4 e5
    subst e5
    refine hf c' (fun z => ?_) (m.symm.trans m2)
    rw [z, beq_self_eq_true] at n1
    cases n1
  | .dic _ ds, _, n, ⟨a, o, kvs, e, h, m, r⟩ => ⟨a, o, kvs, e, s _ _ (fun ⟨_, _, e, _⟩ => by cases e) h, m, RepL.nob hf s ds _ (by rw [D.nob] at n; exact n) r⟩
theorem RepL.nob (hf : ∀ c', c' ≠ c → B.fl c' ≠ B.fl c) (s : ∀ a o, ¬ SelfO B c o → H a = some o → H' a = some o) : ∀ (ds : List D) (vs : List V), nobL c ds = true → RepL B H ds vs → RepL B H' ds vs
  | [], _, _, h => h
  | d :: ds, _, n, ⟨v, r, e, h1, h2⟩ => ⟨v, r, e, Rep.nob hf s d v (by rw [nobL] at n; exact (Bool.and_eq_true_iff.mp n).1) h1, RepL.nob hf s ds r (by rw [nobL] at n; exact (Bool.and_eq_true_iff.mp n).2) h2⟩
end
theorem ok_nob (hf : ∀ c', c' ≠ c → B.fl c' ≠ B.fl c) : OkV B c (D.nob c) := fun d v _ _ h s r => Rep.nob hf s d v h r
theorem RepX.okV {ok : D → Bool} {x : DX} {cv : Value} {od : Option Addr} (hok : OkV B c ok) (hp : ∀ d, x.p = some d → ok d = true) (s : ∀ a o, ¬ SelfO B c o → H a = some o → H' a = some o) (h : RepX B H x cv od) : RepX B H' x cv od := by
  obtain ⟨h1, h2⟩ := h
  refine ⟨h1, ?_⟩
  cases e : x.p with
  | none =>
    rw [e] at h2
    exact h2
  | some d =>
    rw [e] at h2
    obtain ⟨a, v, z1, z2, z3⟩ := h2
    exact ⟨a, v, z1, s _ _ (fun ⟨_, _, e, _⟩ => by cases e) z2, hok d v _ _ (hp d e) s z3⟩
theorem musVa {Y : Hp} {u : Nat → Option Addr} : ∀ {ms : List Mu} {k : Nat} {vs : List V}, ms.all Mu.isVa = true → MusU B Y H u k ms vs → RepL B Y (ms.map Mu.d) vs
  | [], _, _, _, h => h
  | m :: ms, k, _, ha, ⟨v, r, e, h1, h2⟩ => by
    rw [List.all_cons] at ha
    obtain ⟨a1, a2⟩ := Bool.and_eq_true_iff.mp ha
    refine ⟨v, r, e, ?_, musVa a2 h2⟩
    cases m with
    | va d => exact h1
    | ow ds => cases a1
    | od ks ds => cases a1
end
open Classical in
noncomputable def h0W (W : Ow) (H : Hp) : Hp := fun a => if ∃ j, W j = some a then none else H a
def dPkV (ok : D → Bool) (i c n : Nat) (t : DE) : DE := fun env q x => match env[i]? with
  | some (.mu _ c' ms) => (c' = c ∧ ms.length = n ∧ ms.all Mu.isVa = true) ∧ t (env.set i (.va (.obj c' (ms.map Mu.d)))) (fun d => ok d = true ∧ q d) (fun dx => (∀ d, dx.p = some d → ok d = true) ∧ x dx)
  | _ => False
section
variable {X : Cx} {Λ : Lx} {w : WX} {a : Expr} {t : DE}
theorem snd_pkV {P : TE → Prop} {i c n : Nat} {ok : D → Bool} (hc : c ≠ lstC) (hn : (Λ.B.fl c).length = n) (hok : OkV Λ.B c ok) (h : ∀ Z M H0, ∃ te, P te ∧ Snd ⟨Λ.B, Z, M, H0, Λ.dl⟩ w te t) : Snd Λ w (tPkP P) (dPkV ok i c n t) := fun env W σ H Q q x S hx hh k => by
  unfold dPkV at hh
  split at hh
  case h_2 => exact hh.elim
  rename_i b c' ms he
  obtain ⟨⟨rfl, hl, hva⟩, hh⟩ := hh
  obtain ⟨p, dx, gs, hi, hw, hσ, hp, hnm, hM, hmu⟩ := mu_atI S he hc
  have hnm : gs.map (·.1) = Λ.B.fl c' := by rw [hnm, hl, ← hn, List.take_length]
  have il := (List.getElem?_eq_some_iff.mp he).1
  have el := S.len
  have w1 : ∀ {j a}, wput W i none j = some a → j ≠ i ∧ W j = some a := fun {j a} z => by
    by_cases e : j = i
    · rw [wput_same e] at z; cases z
    · rw [wput_ne e] at z; exact ⟨e, z⟩
  have w2 : ∀ {j a}, j ≠ i → W j = some a → wput W i none j = some a := fun {j a} e z => by rw [wput_ne e]; exact z
  have w3 : ∀ {j a}, W j = some a → a ≠ p → wput W i none j = some a := fun {j a} z e => w2 (fun e2 => e (by rw [e2, hw] at z; cases z; rfl)) z
  have wp : ∀ {j a}, j ≠ i → W j = some a → a ≠ p := fun {j a} e z e2 => e (S.wi j i a z (e2 ▸ hw))
  let Λ' : Lx := ⟨Λ.B, Λ.Z, fun a => Λ.M a ∧ a ≠ p, h0Sel (fun a => Λ.M a ∧ a ≠ p) Λ.H0 (h0W (wput W i none) H), Λ.dl⟩
  have eM : ∀ a, (Λ.M a ∧ a ≠ p) → Λ'.H0 a = Λ.H0 a := fun a h => if_pos h
  have eN : ∀ a, ¬ (Λ.M a ∧ a ≠ p) → Λ'.H0 a = h0W (wput W i none) H a := fun a h => if_neg h
  generalize hW1 : wput W i none = W1 at *
  have hG1 : ∀ a, Λ'.G W1 a → Λ.G W a ∧ a ≠ p := fun a g => by
    rcases g with z | z | ⟨j, z⟩
    · exact ⟨.inl z, fun e => (S.wx i p hw).2.1 (e ▸ z)⟩
    · exact ⟨.inr (.inl z.1), z.2⟩
    · exact ⟨.inr (.inr ⟨j, (w1 z).2⟩), wp (w1 z).1 (w1 z).2⟩
  have hG2 : ∀ a, Λ.G W a → Λ'.G W1 a ∨ a = p := fun a g => by
    by_cases e1 : a = p
    · exact .inr e1
    refine .inl ?_
    rcases g with z | z | ⟨j, z⟩
    · exact .inl z
    · exact .inr (.inl ⟨z, e1⟩)
    · exact .inr (.inr ⟨j, w3 z e1⟩)
  have pG : ¬ Λ'.G W1 p := fun g => (hG1 p g).2 rfl
  have v1 : Same (Λ.vis W H) (Λ'.vis W1 H) := hid_anti fun a g => (hG1 a g).1
  obtain ⟨te, pte, ste⟩ := h Λ'.Z Λ'.M Λ'.H0
  have ste : Snd Λ' w te t := ste
  have S1 : StOk Λ' (env.set i (.va (.obj c' (ms.map Mu.d)))) W1 σ H := by
    refine ⟨by rw [List.length_set]; exact el, fun j y ej => ?_, fun a o m h0 => ?_, fun a m => S.mx a m.1, fun a z => S.zx a z, fun j a ej => ?_, fun j k a e1 e2 => S.wi j k a (w1 e1).2 (w1 e2).2, fun d l ed => ?_, ?_⟩
    · by_cases e : j = i
      · subst e
        rw [List.getElem?_set_self il] at ej
        cases ej
        exact ⟨.ref p, hσ, p, dx, gs, rfl, hid_some.mpr ⟨pG, hp⟩, hnm, (musVa hva hmu).up v1⟩
      · rw [List.getElem?_set_ne (Ne.symm e)] at ej
        have z := S.sl j y ej
        have low : ∀ a, W j = some a → W1 j = some a ∧ a ≠ p := fun a ha => ⟨w2 e ha, wp e ha⟩
        cases y with
        | un => trivial
        | va d =>
          obtain ⟨v, z1, z2⟩ := z
          exact ⟨v, z1, z2.up v1⟩
        | ow ds =>
          obtain ⟨a, vs, z0, z1, z2, z3, z4⟩ := z
          exact ⟨a, vs, (low a z0).1, z1, z2, z3.up v1, fun m => z4 m.1⟩
        | se c ds =>
          obtain ⟨a, dx, gs, z0, z1, z2, ⟨z3, z5⟩, z4⟩ := z
          exact ⟨a, dx, gs, (low a z0).1, z1, z2, ⟨z3, z5, (low a z0).2⟩, z4.up v1⟩
        | dl =>
          obtain ⟨d, l, z0, z1⟩ := z
          exact ⟨d, l, z0, z1⟩
        | er a cls od dx =>
          obtain ⟨z1, z2⟩ := z
          exact ⟨z1, z2.up v1⟩
        | od ks ds =>
          obtain ⟨a, kvs, z0, z1, z2, z3, z4, z5⟩ := z
          exact ⟨a, kvs, (low a z0).1, z1, z2, z3, z4.up v1, fun m => z5 m.1⟩
        | pm k m =>
          obtain ⟨a, z5, z6, z0, z1, z2⟩ := z
          obtain ⟨l1, l2⟩ := low a z0
          refine ⟨a, ⟨z5, l2⟩, (eM a ⟨z5, l2⟩).trans z6, l1, z1, ?_⟩
          cases m with
          | va d => exact z2.elim
          | ow ds =>
            obtain ⟨vs, z2, z3⟩ := z2
            exact ⟨vs, z2, z3.up v1⟩
          | od ks ds =>
            obtain ⟨kvs, z2, z3, z4⟩ := z2
            exact ⟨kvs, z2, z3, z4.up v1⟩
        | mu b c ms =>
          obtain ⟨hz, a, dx, gs, z0, z1, z2, ⟨z3, z5, z6⟩, z4⟩ := z
          obtain ⟨l1, l2⟩ := low a z0
          have sn : ∀ k, sub j k ≠ i := fun k e3 => by have := @sub_hi j k; omega
          refine ⟨hz, a, dx, gs, l1, z1, z2, ⟨z3, ⟨fun m => z5.mp m.1, fun m => ⟨z5.mpr m, l2⟩⟩, fun k a y m => z6 k a (w1 y).2 m.1⟩, musU.mpr ((musU.mp z4).gen v1 (fun k a2 _ e2 => w2 (sn k) e2) fun k a2 o _ e2 ho => ho)⟩
    · have h0 : h0W W1 H a = some o := (eN a m).symm.trans h0
      unfold h0W at h0
      split at h0
      · cases h0
      · exact h0
    · obtain ⟨_, z2⟩ := w1 ej
      refine ⟨(S.wx j a z2).1, (S.wx j a z2).2.1, ?_⟩
      by_cases mm : Λ.M a ∧ a ≠ p
      · exact .inr mm
      refine .inl ((eN a mm).trans ?_)
      unfold h0W
      rw [if_pos ⟨j, ej⟩]
    · obtain ⟨D0, md, ml, nw⟩ := S.dl d l ed
      exact ⟨D0, ⟨md, fun e => (nw i).1 (e ▸ hw)⟩, ⟨ml, fun e => (nw i).2 (e ▸ hw)⟩, fun j => ⟨fun z => (nw j).1 (w1 z).2, fun z => (nw j).2 (w1 z).2⟩⟩
    · rw [← hW1]
      exact wput_fin S.wf
  have back : ∀ H', StOk Λ' (env.set i (.va (.obj c' (ms.map Mu.d)))) W1 σ H' → Ev Λ' W1 H H' → StOk Λ env W σ H' ∧ Ev Λ W H H' ∧ ∀ a o, ¬ SelfO Λ.B c' o → Λ'.vis W1 H' a = some o → Λ.vis W H' a = some o := fun H' S' e1 => by
    have hp' : H' p = some (.ins (Λ.B.C c') dx gs) := (hid_some.mp (e1.vis _ _ (hid_some.mpr ⟨pG, hp⟩))).2
    have e3 : Ev Λ W H H' := by
      refine ⟨hid_grow fun a o g ha => ⟨g, (hid_some.mp (e1.vis a o (hid_some.mpr ⟨fun z => g (hG1 a z).1, ha⟩))).2⟩, fun j a o hj ha => ?_, e1.all⟩
      by_cases e : a = p
      · rw [e] at ha ⊢
        rw [hp] at ha
        rw [hp', ← ha]
      · exact e1.own j a o (w3 hj e) ha
    refine ⟨⟨S.len, fun i x h => (S.sl i x h).mono e3.vis e3.own, fun a o m h0 => ?_, fun a m => e3.all a (S.mx a m), fun a m => e3.all a (S.zx a m), fun j a e => ⟨e3.all a (S.wx j a e).1, (S.wx j a e).2⟩, S.wi, fun d l ed => ?_, S.wf⟩, e3, fun a o no hv => ?_⟩
    · have no : ∀ j, W j ≠ some a := fun j e => by
        rcases (S.wx j a e).2.2 with z | z
        · rw [z] at h0; cases h0
        · exact m z
      refine S'.fr a o (fun z => m z.1) ?_
      refine (eN a fun z => m z.1).trans ?_
      unfold h0W
      rw [if_neg (fun ⟨j, z⟩ => no j (w1 z).2)]
      exact S.fr a o m h0
    · obtain ⟨D0, md, ml, nw⟩ := S.dl d l ed
      exact ⟨(S'.dl d l ed).1, md, ml, nw⟩
    · obtain ⟨g, hv2⟩ := hid_some.mp hv
      refine hid_some.mpr ⟨fun z => ?_, hv2⟩
      rcases hG2 a z with z | e
      · exact g z
      · rw [e, hp'] at hv2
        cases hv2
        exact no ⟨dx, gs, rfl, hnm⟩
  refine ⟨te, 0, pte, ste _ W1 σ H Q _ _ S1 (fun dxx cv od H' hx' S' e1 rx => ?_) hh fun d v H' hq S' e1 r1 => ?_⟩
  · obtain ⟨S3, e3, cv3⟩ := back H' S' e1
    exact hx dxx cv od H' hx'.2 S3 e3 (rx.okV hok hx'.1 cv3)
  · obtain ⟨S3, e3, cv3⟩ := back H' S' e1
    exact k d v H' hq.2 S3 e3 (hok d v _ _ hq.1 cv3 r1)
theorem xe_pkV {i c n : Nat} (hf : ∀ c', c' ≠ c → Λ.B.fl c' ≠ Λ.B.fl c) (hn : (Λ.B.fl c).length = n) (h : ∀ Z M H0, XE X ⟨Λ.B, Z, M, H0, Λ.dl⟩ w a t) (hc : c ≠ lstC := by decide) : XE X Λ w a (dPkV (D.nob c) i c n t) := ⟨fun hK => ⟨_, pe_pk, snd_pkV hc hn (ok_nob hf) (fun Z M H0 => (h Z M H0).ex hK)⟩⟩
def dPkTV (i c n : Nat) (t : DT) : DT := fun env q x => dPkV (D.nob c) i c n (fun env q x => t env (fun b => q (.bl b)) x) env (fun d => match d with
  | .bl b => q b
  | _ => False) x
theorem xt_pkV {i c n : Nat} {tA : DT} (hf : ∀ c', c' ≠ c → Λ.B.fl c' ≠ Λ.B.fl c) (hn : (Λ.B.fl c).length = n) (h : ∀ Z M H0, XT X ⟨Λ.B, Z, M, H0, Λ.dl⟩ w a tA) (hc : c ≠ lstC := by decide) : XT X Λ w a (dPkTV i c n tA) := ⟨fun hK => by
  refine ⟨fun σ H Q => tPkP (fun te => PT X a (fun σ H Q => te σ H (bQ Q))) σ H (bQ Q), ⟨fun pins s σ H Q I ⟨te, n, p, hw⟩ => (pt_pkN p n).run pins s σ H Q I hw⟩, fun env W σ H Q q x S hx hh k => ?_⟩
  refine snd_pkV (P := fun te => PT X a (fun σ H Q => te σ H (bQ Q))) hc hn (ok_nob hf) (fun Z M H0 => ?_) env W σ H _ _ x S hx hh fun d v H' hq S' e r => ?_
  · obtain ⟨tt, p, s⟩ := (h Z M H0).ex hK
    refine ⟨fun σ H Q => tt σ H fun b H' => Q (.bl b) H', ?_, fun env W σ H Q q x S hx hh k => s env W σ H _ _ x S hx hh fun b H' hq S' e => k (.bl b) (.bl b) H' hq S' e rfl⟩
    have e : (fun (σ : L2.St) H Q => tt σ H fun b H' => bQ Q (.bl b) H') = tt := by
      funext σ H Q
      show tt σ H (fun b H' => bQ Q (.bl b) H') = _
      rw [bQ_bl]
    rw [e]
    exact p
  · cases d <;> first | exact hq.elim | skip
    cases r
    exact ⟨_, rfl, k _ H' hq S' e⟩⟩
end
end Eb
namespace Eb
open PySem PySem.Spec PyProof.Rows L2 StX
section
variable {X : Cx} {CX : CXT} {n : Nat} {C g : Addr} {sp : Sp} {E : L2.St → XK} {e o i : Expr} {te to ti : TE} {op : Operator} {pos pos' : Pos}
def tAugM (i : Nat) (C : Addr) (sp : Sp) (E : L2.St → XK) (te : TE) : TS := fun D σ H => ∃ p, σ[i]? = some (some (.ref p)) ∧ te σ H fun y H1 => InsO H1 p C ∧ sp [.ref p, y] H1 (fun z H2 => D.nx (σ.set i (some z)) H2) (E σ)
theorem ps_augM {i : Nat} {x : Str} (hN : X.N.Nodup) (hi : X.N[i]? = some x) (hx : Loc X.env.scope x) (he : PE X e te) (hc : PySem.W.selfFirst X.K C = true) (hs : PySem.W.findIn X.K (.ref C) (dunderI op.info.2) = some (some (.ref g))) (hf : PySem.W.isFn X.K (.ref g) = true) (F : FnR X.prog X.w X.K X.mg X.base CX n g sp) (hr : Room n X.A) (hE : ∀ σ, PassesAt CX X σ (E σ))
    (hfn : X.fn x = true ∨ X.env.scope.names.lookup x = some .local := by first | exact .inl rfl | exact .inr rfl | assumption) : PS X (.AugAssign (.Name x pos') op e pos) (tAugM i C sp E te) := by
  refine ⟨fun pins s σ H D I h => ?_⟩
  obtain ⟨p, e1, h⟩ := h
  obtain ⟨m, hn, hl⟩ := I.loc
  have vis : Vis X.env.scope x := by rcases hx with k | k; exact .inl k; exact .inr (.inl k)
  obtain ⟨u, r, l⟩ := hl i x (.ref p) hi e1 vis
  cases (show u = Value.ref p from r)
  refine wpAny_AugAssign_Name ?_
  have go : wpAny (model X.prog X.w) X.A (eval e X.env) (fun w s₂ => wpAny (model X.prog X.w) X.A (inplaceOp op (.ref p) w) (fun r s₃ => wpAny (model X.prog X.w) X.A (storeName X.env x r) (fun _ => SP X pins D .next) X.xe s₃) X.xe s₂) X.xe s := by
    refine thn (he.run pins s σ H _ I h) fun w s1 ⟨y, H1, I1, r1, hO, q1⟩ => ?_
    obtain ⟨m, hF⟩ := I1.fr
    obtain ⟨ox, od, J⟩ := insO_at I1 hO
    refine thn (ip_own hF I1.ok.mod.kin J hc hs hf (Q := EP X pins σ fun z H2 => D.nx (σ.set i (some z)) H2) (wpAny_mono (wpAny_call (run_fnRS F hr (hE σ) I1 (.cons (show L2.RelV (.ref p) (.ref p) from rfl) (.cons r1 .nil)) q1)) (fun w s' ⟨z', H', I', rz, qz⟩ => SlX.cmpback rz ⟨z', H', I', rz, qz⟩) fun _ _ x => x)) fun z s2 ⟨zv, H2, I2, r2, q2⟩ => ?_
    exact store_ok I2 hN hi hx r2 (fun s3 I3 => ⟨_, H2, I3, q2⟩) hfn
  rcases l with ⟨hk, hm⟩ | ⟨hk, c, hc, hcell⟩
  · exact wpAny_loadName_local I.ok.kind hk hn hm go
  · rcases hk with hk | hk
    · exact wpAny_loadName_cell I.ok.kind hk hc hcell go
    · rcases hx with k | k
      · have : X.env.scope.names.lookup x = some .free := hk
        rw [k] at this; cases this
      · have : X.env.scope.names.lookup x = some .free := hk
        rw [k] at this; cases this
def gSubM (C : Addr) (sp : Sp) (E : L2.St → XK) (to ti : TE) : TG := fun v σ H Q => to σ H fun o H1 => ti σ H1 fun k H2 => ∃ p, o = .ref p ∧ InsO H2 p C ∧ sp [.ref p, k, v] H2 (fun _ H3 => Q σ H3) (E σ)
theorem pg_subM {b : Bool} (ho : PE X o to) (hi : PE X i ti) (hd : PySem.W.subIn X.K (.ref C) (.type "collections.deque") = some b) (hs : PySem.W.findIn X.K (.ref C) "__setitem__" = some (some (.ref g))) (hf : PySem.W.isFn X.K (.ref g) = true) (F : FnR X.prog X.w X.K X.mg X.base CX n g sp) (hr : Room n X.A) (hE : ∀ σ, PassesAt CX X σ (E σ))
    (ha : ∀ v, assign (.Subscript o i pos) X.env v = (do
      let ov ← holding [v] (eval o X.env)
      let iv ← holding [v, ov] (eval i X.env)
      standAt pos
      holding [v, ov, iv] (setItem ov iv v)
      release [v, ov, iv] []) := by intro _; rfl) : PG X (.Subscript o i pos) (gSubM C sp E to ti) := by
  refine ⟨fun pins s σ H v u Q I r h => ?_⟩
  rw [ha]
  refine wpAny_bind (wpAny_holding (thn (ho.run pins s σ H _ I h) fun ov s1 ⟨x, H1, I1, r1, q1⟩ => ?_))
  refine wpAny_bind (wpAny_holding (thn (hi.run pins s1 σ H1 _ I1 q1) fun iv s2 ⟨y, H2, I2, r2, p, e1, hO, q2⟩ => ?_))
  subst e1
  cases (show ov = Value.ref p from r1)
  obtain ⟨m, hF⟩ := I2.fr
  obtain ⟨ox, od, J⟩ := insO_at I2 hO
  refine wpAny_bind (wpAny_standAt (wpAny_bind (wpAny_holding (thn (set_own (Q := fun _ s' => EP X pins σ (fun _ H3 => Q σ H3) (.ref p) s' ∨ ∃ v, EP X pins σ (fun _ H3 => Q σ H3) v s') hF I2.ok.mod.kin J hd hs hf (wpAny_mono (wpAny_call (run_fnRS F hr (hE σ) I2 (.cons (show L2.RelV (.ref p) (.ref p) from rfl) (.cons r2 (.cons r .nil))) q2)) (fun w s' z => .inr ⟨w, z⟩) fun _ _ x => x)) fun _ s3 z => ?_))))
  obtain ⟨zv, H3, I3, _, q3⟩ : ∃ zv H3, Inv X pins σ H3 s3 ∧ True ∧ Q σ H3 := by
    rcases z with ⟨zv, H3, I3, r3, q3⟩ | ⟨v, zv, H3, I3, r3, q3⟩ <;> exact ⟨zv, H3, I3, trivial, q3⟩
  exact wpAny_release ⟨σ, H3, I3, q3⟩
end
def spMS (B : Tb) (c : Nat) (wp : DWM) : Sp := fun vs H Q E => ∃ (Z : Addr → Prop) (p : Addr) (gs : List V) (u : Nat → Option Addr) (ms : List Mu) (ds : List D) (vr : List V) (q : D → List Mu → Prop) (x : DX → List Mu → Prop), vs = .ref p :: vr ∧ EntM B c Z H p gs u ms ∧ RepL B (hid (ZU Z p u) H) ds vr ∧ wp ms ds q x ∧
  (∀ d ms' u' H', q d ms' → Chg B c Z (fun a => H a = none) H H' p u u' ms' → Q (.ref p) H') ∧ ∀ dx cv od ms' u' H', x dx ms' → Chg B c Z (fun a => H a = none) H H' p u u' ms' → RepX B (hid (ZU Z p u') H') dx cv od → E cv od H'
def endsMS (c : Nat) (q : D → List Mu → Prop) (x : DX → List Mu → Prop) : DEnds := ⟨endM c (q .non), fun _ _ => False, fun _ => False, fun _ => False, fun env dx => endM c (x dx) env⟩
def wpOfMS (c n m : Nat) (t1 t2 : DS) : DWM := fun ms ds q x => ds.length = n ∧ t1 (.mu true c ms :: (ds.map Sl.va ++ List.replicate m .un)) { endsMS c q x with nx := fun env => t2 env (endsMS c q x) }
section
variable {P : Program} {w' : World} {K : PySem.W.Frag} {mg : Str → Option Value} {base : Heap} {name qual : Str} {st : Stmt} {f : Addr} {fd : FuncData} {N ps : List Str} {k : Nat} {B : Tb}
theorem fnMS (F : Fun K name qual st f fd) (S : FnScope N ps (defScope st)) {t1 t2 : DS} {c n m : Nat} {s1 s2 : Stmt} {y : Str} {p1 rp : Pos} (hn : ps.length = n + 1) (hN : N.length = n + 1 + m) (hs : N.length ≤ 1000) (hK : K = B.K) (hb : defBody st = [s1, s2, .Return (some (.Name y p1)) rp])
    (hy : ∀ (cdv : Value) (A : Around) (outer : List Env) (s : Shared) (H : Hp) (E : XK), PE (cxOf (L2.CX P w') P w' K mg base N qual (defScope st) f cdv A outer s H E) (.Name y p1) (tVar 0))
    (body1 : ∀ (cdv : Value) (A : Around) (outer : List Env) (s : Shared) (H : Hp) (E : XK) (Z M : Addr → Prop) (H0 : Hp) (dl : Option (Addr × Addr)), Room k (A.deeper (envOfC qual (defScope st) s.heap.objs.size f cdv)) →
      XS (cxOf (L2.CX P w') P w' K mg base N qual (defScope st) f cdv A outer s H E) ⟨B, Z, M, H0, dl⟩ (fun cls d _ H => E cls d H) s1 t1)
    (body2 : ∀ (cdv : Value) (A : Around) (outer : List Env) (s : Shared) (H : Hp) (E : XK) (Z M : Addr → Prop) (H0 : Hp) (dl : Option (Addr × Addr)), Room k (A.deeper (envOfC qual (defScope st) s.heap.objs.size f cdv)) →
      XS (cxOf (L2.CX P w') P w' K mg base N qual (defScope st) f cdv A outer s H E) ⟨B, Z, M, H0, dl⟩ (fun cls d _ H => E cls d H) s2 t2) : FnOk P w' K mg base (L2.CX P w') (k + 1) f fd ps (spMS B c (wpOfMS c n m t1 t2)) := by
  refine F.okX S (fun vs H Q E ⟨Z, p, gs, u, ms, ds, vr, q, x, e, En, r, h, _⟩ => by rw [e, List.length_cons, r.len, h.1, hn]) fun cdv A outer s H vs Q E hr ⟨Z, p, gs, u, ms, ds, vr, q, x, e, En, r, ⟨hl, ht⟩, kq, kx⟩ => ?_
  subst e
  rw [hb]
  obtain ⟨r1, p1', q1⟩ := (body1 cdv A outer s H E Z (fun a => a = p) (h0M H u) none hr).ex hK
  obtain ⟨r2, p2', q2⟩ := (body2 cdv A outer s H E Z (fun a => a = p) (h0M H u) none hr).ex hK
  have ex : ∀ env' (W' : Ow) (σ' : L2.St) H' dx cv od, endM c (x dx) env' → StOk (LM B Z H p u) env' W' σ' H' → RepX B ((LM B Z H p u).vis W' H') dx cv od → E cv od H' := fun env' W' σ' H' dx cv od h S' rx => by
    obtain ⟨ms', he, hq⟩ := endM_at h
    obtain ⟨C, v2⟩ := chg_of En S' he
    exact kx dx cv od ms' _ H' hq C (rx.up v2)
  refine ⟨_, pss_cons p1' (pss_cons p2' (pss_one (ps_ret (hy cdv A outer s H E)))), q1 _ _ _ _ _ { endsMS c q x with nx := fun env => t2 env (endsMS c q x) } (st_startM En r (by rw [hl]; exact hN) hs) ⟨fun env' W' σ' H' h S' _ => ?_, fun _ _ _ _ z => z.elim, fun _ _ _ _ z => z.elim, fun _ _ _ _ _ _ z => z.elim, fun env' W' σ' H' dx cv od h S' _ rx => ex env' W' σ' H' dx cv od h S' rx⟩ ht⟩
  refine q2 env' W' σ' H' _ (endsMS c q x) S' ⟨fun env2 W2 σ2 H2 h2 S2 _ => ?_, fun _ _ _ _ z => z.elim, fun _ _ _ _ z => z.elim, fun _ _ _ _ _ _ z => z.elim, fun env2 W2 σ2 H2 dx cv od h S' _ rx => ex env2 W2 σ2 H2 dx cv od h S' rx⟩ h
  obtain ⟨ms', he, hq⟩ := endM_at h2
  obtain ⟨p2, _, _, _, _, hσ2, _, _, hM, _⟩ := mu_at S2 he
  have e2 : p2 = p := hM.1.mpr rfl
  subst e2
  exact ⟨_, hσ2, kq .non ms' _ H2 hq (chg_of En S2 he).1⟩
end
section
variable {X : Cx} {Λ : Lx} {w : WX} {a b : Expr} {es : List Expr} {t ta tb : DE} {tm : DM} {u : DA} {pos cpos pos' p p1 : Pos} {y : Str} {f g : Addr} {fd : FuncData} {ps : List Str} {k : Nat}
def dAugM (i c : Nat) (wp : DWM) (t : DE) : DS := fun env e => match env[i]? with
  | some (Sl.mu b c' ms) => c' = c ∧ t env (fun d => wp ms [d] (fun _ ms' => e.nx (env.set i (.mu b c' ms'))) (fun dx ms' => e.ex (env.set i (.mu b c' ms')) dx)) (e.ex env)
  | _ => False
theorem xs_augM {i c n : Nat} {op : Operator} {wp : DWM} (tk : Takes X w) (hN : X.N.Nodup) (hi : X.N[i]? = some y) (hx : Loc X.env.scope y) (he : XE X Λ w a t) (hc : PySem.W.selfFirst X.K (Λ.B.C c) = true) (hs : PySem.W.findIn X.K (.ref (Λ.B.C c)) (dunderI op.info.2) = some (some (.ref g))) (hf : PySem.W.isFn X.K (.ref g) = true)
    (F : FnR X.prog X.w X.K X.mg X.base (L2.CX X.prog X.w) n g (spMS Λ.B c wp)) (hr : Room n X.A) (hcl : c ≠ lstC := by decide) (hfn : X.fn y = true ∨ X.env.scope.names.lookup y = some .local := by first | exact .inl rfl | exact .inr rfl | assumption) : XS X Λ w (.AugAssign (.Name y pos') op a pos) (dAugM i c wp t) := ⟨fun hK => by
  obtain ⟨r, pp, s⟩ := he.ex hK
  refine ⟨_, ps_augM (E := WE w) hN hi hx pp hc hs hf F hr (fun σ => passAt tk σ) hfn, fun env W σ H E e S L h => ?_⟩
  unfold dAugM at h
  split at h
  case h_2 => exact h.elim
  rename_i b c' ms he
  obtain ⟨rfl, h⟩ := h
  obtain ⟨p, ob, gv, hi', hw, hσ, hp, hn, _, _⟩ := ent_of S he
  refine ⟨p, hσ, s env W σ H _ _ _ S L.xok h fun d v H1 h1 S1 e1 r1 => ?_⟩
  obtain ⟨p', ob', gs', _, hw', _, hp1, hn1, En, vv⟩ := ent_of S1 he
  rw [hw] at hw'
  cases hw'
  obtain ⟨dx, gs, rfl, hn2, rfl⟩ := hn1.ins hcl
  refine ⟨⟨dx, gs, hp1⟩, _, p, _, _, ms, [d], [v], _, _, rfl, En, (RepL.one r1).up vv, h1, fun d2 ms' u' H' hq C => ?_, fun dxx cv od ms' u' H' hq C rx => ?_⟩
  · obtain ⟨S3, v3, v4⟩ := S1.muCh S1 .refl he hw C
    have e5 : σ.set i (some (.ref p)) = σ := by
      refine List.ext_getElem? fun j => ?_
      rw [List.getElem?_set]
      split
      · rename_i e
        subst e
        split
        · exact hσ.symm
        · rename_i c
          rw [List.getElem?_eq_none (by omega)]
      · rfl
    rw [e5]
    exact L.nx _ _ _ _ hq S3 (e1.vis.trans v3)
  · obtain ⟨S3, v3, v4⟩ := S1.muCh S1 .refl he hw C
    exact L.ex _ _ _ _ dxx cv od hq S3 (e1.vis.trans v3) (rx.up v4)⟩
def dSetM2 (i c : Nat) (wp : DWM) (tk tv : DE) : DS := fun env e => match env[i]? with
  | some (Sl.mu b c' ms) => c' = c ∧ tv env (fun dv => tk env (fun dk => wp ms [dk, dv] (fun _ ms' => e.nx (env.set i (.mu b c' ms'))) (fun dx ms' => e.ex (env.set i (.mu b c' ms')) dx)) (e.ex env)) (e.ex env)
  | _ => False
theorem xs_setI {i c n : Nat} {bb : Bool} {wp : DWM} {ie : Expr} {pi : Pos} (tk : Takes X w) (ho : PE X (.Name y p1) (tVar i)) (hi : XE X Λ w ie ta) (hv : XE X Λ w a tb) (hd : PySem.W.subIn X.K (.ref (Λ.B.C c)) (.type "collections.deque") = some bb) (hs : PySem.W.findIn X.K (.ref (Λ.B.C c)) "__setitem__" = some (some (.ref g))) (hf : PySem.W.isFn X.K (.ref g) = true)
    (F : FnR X.prog X.w X.K X.mg X.base (L2.CX X.prog X.w) n g (spM Λ.B c wp)) (hr : Room n X.A) (hcl : c ≠ lstC := by decide)
    (hs2 : swapsWithSole [.Subscript (.Name y p1) ie pi] a pos.line X.env = pure false := by rfl) (hw : swappedStores [.Subscript (.Name y p1) ie pi] a X.env = pure none := by rfl)
    (h1 : (assignEach [.Subscript (.Name y p1) ie pi] X.env).map (·.2) = [assign (.Subscript (.Name y p1) ie pi) X.env] := by rfl)
    (ha : ∀ v, assign (.Subscript (.Name y p1) ie pi) X.env v = (do
      let ov ← holding [v] (eval (.Name y p1) X.env)
      let iv ← holding [v, ov] (eval ie X.env)
      standAt pi
      holding [v, ov, iv] (setItem ov iv v)
      release [v, ov, iv] []) := by intro _; rfl) : XS X Λ w (.Assign [.Subscript (.Name y p1) ie pi] a pos) (dSetM2 i c wp ta tb) := ⟨fun hK => by
  obtain ⟨ri, ppi, si⟩ := hi.ex hK
  obtain ⟨rv, pv, sv⟩ := hv.ex hK
  refine ⟨_, ps_asg pv (pg_subM (E := WE w) ho ppi hd hs hf F hr (fun σ => passAt tk σ) ha) hs2 hw h1, fun env W σ H E e S L h => ?_⟩
  unfold dSetM2 at h
  split at h
  case h_2 => exact h.elim
  rename_i b c' ms he
  obtain ⟨rfl, h⟩ := h
  obtain ⟨p, ob, gv, hi', hw, hσ, hp, hn, _, _⟩ := ent_of S he
  refine sv env W σ H _ _ _ S L.xok h fun d v H1 h1 S1 e1 r1 => ⟨_, hσ, si env W σ H1 _ _ _ S1 (L.xok.on e1) h1 fun d2 v2 H2 h2 S2 e2 r2 => ?_⟩
  obtain ⟨p', ob', gs', _, hw', _, hp1, hn1, En, vv⟩ := ent_of S2 he
  rw [hw] at hw'
  cases hw'
  obtain ⟨dx, gs, rfl, hn2, rfl⟩ := hn1.ins hcl
  refine ⟨p, rfl, ⟨dx, gs, hp1⟩, _, p, _, _, ms, [d2, d], [v2, v], _, _, rfl, En, ((RepL.cons r2 (RepL.one (r1.up e2.vis)))).up vv, h2, fun d3 v3 ms' u' H' hq C rp => ?_, fun dxx cv od ms' u' H' hq C rx => ?_⟩
  · obtain ⟨S3, v3, v4⟩ := S2.muCh S2 .refl he hw C
    exact L.nx _ _ _ _ hq S3 ((e1.vis.trans e2.vis).trans v3)
  · obtain ⟨S3, v3, v4⟩ := S2.muCh S2 .refl he hw C
    exact L.ex _ _ _ _ dxx cv od hq S3 ((e1.vis.trans e2.vis).trans v3) (rx.up v4)⟩
theorem xm_callM {i c : Nat} {wp : DWM} {z : Str} (ho : PE X (.Name y p1) (tVar i)) (F : FnOk X.prog X.w X.K X.mg X.base CX0 k f fd ps (spM0 Λ.B c wp)) (hr : Room k X.A) (hg : Gl X z) (hm : X.mg z = some (.ref f)) (hk : PySem.W.keepIn X.K (.ref f) = true) (hb : Binds X.K fd ps []) (ha : XA X Λ w es u) (hdb : (z == ("__debug__" : Str)) = false := by decide)
    (he : starEach (.Name y p1 :: es) X.env = (false, eval (.Name y p1) X.env) :: starEach es X.env := by rfl) (hpl : (backTo pos (starEach es X.env)).any (·.1) = false := by rfl) (hc : c ≠ lstC := by decide) : XM X Λ w (.Call (.Name z p) (.Name y p1 :: es) [] pos) (dMM0 i c wp u) := ⟨fun hK => by
  obtain ⟨r', p', s'⟩ := ha.ex hK
  refine ⟨_, pe_call F hr hg hm hk hb .nil pass0 (pa_cons ho p' he) hdb he hpl, fun env W σ H Q q x S hx h k => ?_⟩
  unfold dMM0 at h
  split at h
  case h_2 => exact h.elim
  rename_i b c' ms he
  obtain ⟨rfl, h⟩ := h
  obtain ⟨p, ob, gv, hi, hw, hσ, hp, hn, _, _⟩ := ent_of S he
  refine ⟨_, hσ, s' env W σ H _ _ _ S (fun dx cv od H' z S' e r => hx env W H' dx cv od z S' e.vis r) h fun ds vs H2 h2 S2 e2 r2 => ?_⟩
  show spM0 Λ.B c' wp ((V.ref p :: vs) ++ []) H2 Q E0
  rw [List.append_nil]
  obtain ⟨p', dx', gs', _, hw', _, _, _, En, v⟩ := ent_of S2 he
  rw [hw] at hw'
  cases hw'
  refine ⟨_, p, gs', _, ms, ds, vs, _, rfl, En, r2.up v, h2, fun d w ms' u' H' hq C rp => ?_⟩
  obtain ⟨S3, v3, v4⟩ := S2.muCh S2 .refl he hw C
  exact k d w _ _ H' hq (List.length_set ..) S3 (e2.vis.trans v3) (rp.up v4)⟩
def dIfMC (f : D → D → DK) (tm : DM) (tb : DE) (t u : DS) : DS := fun env e => tm env (fun d env' => tb env' (fun d2 => f d d2 (fun z => match z with
  | .bl k => iteB k (t env' e) (u env' e)
  | _ => False) (e.ex env')) (e.ex env')) e.ex
theorem xs_ifMC {op : CmpOp} {r : R2} {fr : D → D → DK} {s1 s2 : List Stmt} {ts us : DS} (ho : X.K = Λ.B.K → OpR X (compareOp op) r) (hr : SndR Λ w r fr) (ha : XM X Λ w a tm) (hb : XE X Λ w b tb) (h1 : XSs X Λ w s1 ts) (h2 : XSs X Λ w s2 us) (hm : behindInMarks op b = false := by rfl) : XS X Λ w (.If (.Compare a [op] [b] cpos) s1 s2 pos) (dIfMC fr tm tb ts us) := ⟨fun hK => by
  obtain ⟨ra, pa, sa⟩ := ha.ex hK
  obtain ⟨rb, pb, sb⟩ := hb.ex hK
  obtain ⟨r1, p1, q1⟩ := h1.ex hK
  obtain ⟨r2, p2, q2⟩ := h2.ex hK
  refine ⟨_, ps_if (pt_cmpR (ho hK) pa pb hm) p1 p2, fun env W σ H E e S L h => sa env W σ H _ _ _ S L.xom h fun d v env' W' H1 h1 _ S1 v1 rr1 => sb env' W' σ H1 _ _ _ S1 ((L.on v1).xok) h1 fun d2 v2 H2 h2 S2 e2 rr2 => hr env' W' σ H2 d d2 v v2 _ _ _ S2 ((L.on (v1.trans e2.vis)).xok) (rr1.up e2.vis) rr2 h2 fun d3 v3 H3 h3 S3 e3 rr3 => ?_⟩
  have L3 := L.on ((v1.trans e2.vis).trans e3.vis)
  cases d3 with
  | bl c =>
    refine ⟨c, rr3, ?_⟩
    cases c with
    | true => exact q1 env' W' σ H3 E e S3 L3 h3
    | false => exact q2 env' W' σ H3 E e S3 L3 h3
  | _ => exact h3.elim⟩
def dParNew (i j c : Nat) (wp : DWL) (l : Nat) (t : DE) : DS := fun env e => match env[l]? with
  | some (.ow rs) => wp rs (fun fs => t env (fun d => (i < env.length ∧ env.length ≤ 1000 ∧ d.nob c = true) ∧ e.nx ((env.set i (.mu false c (fs.map .va))).set j (.va d))) (e.ex env))
  | _ => False
theorem xs_parNew {i j c l kk : Nat} {wp : DWL} {x1 y1 z zl : Str} {px py pt q1 q2 q3 : Pos} {kt k2 pt2} (hcm : X.calm = true) (hN : X.N.Nodup) (hi : X.N[i]? = some x1) (hj : X.N[j]? = some y1) (hij : i ≠ j)
    (hx : X.env.scope.names.lookup x1 = some .local) (hy : X.env.scope.names.lookup y1 = some .local) (hf : ∀ c', c' ≠ c → Λ.B.fl c' ≠ Λ.B.fl c) (hcl : c ≠ lstC)
    (ho : PE X (.Name zl q1) (tVar l)) (M : Mk X.K (Λ.B.C c) f) (F : FnR X.prog X.w X.K X.mg X.base CX0 kk f (spIL Λ.B c wp)) (hr : Room (kk + 1) X.A) (hg : Gl X z) (hm : X.mg z = some (.ref (Λ.B.C c))) (hb : XE X Λ w b t)
    (hw : swappedStores [.Tuple [.Name x1 px, .Name y1 py] kt pt] (.Tuple [.Call (.Name z q2) [.Name zl q1] [] q3, b] k2 pt2) X.env = pure (some [x1, y1])) (hdb : (z == ("__debug__" : Str)) = false := by decide)
    (he : starEach [.Name zl q1] X.env = (false, eval (.Name zl q1) X.env) :: starEach [] X.env := by rfl) (hpl : (backTo q3 (starEach [] X.env)).any (·.1) = false := by rfl)
    (he1 : starEach [.Call (.Name z q2) [.Name zl q1] [] q3, b] X.env = (false, eval (.Call (.Name z q2) [.Name zl q1] [] q3) X.env) :: starEach [b] X.env := by rfl) (he2 : starEach [b] X.env = (false, eval b X.env) :: starEach [] X.env := by rfl)
    (hs : swapsWithSole [.Tuple [.Name x1 px, .Name y1 py] kt pt] (.Tuple [.Call (.Name z q2) [.Name zl q1] [] q3, b] k2 pt2) pos.line X.env = pure false := by rfl) :
    XS X Λ w (.Assign [.Tuple [.Name x1 px, .Name y1 py] kt pt] (.Tuple [.Call (.Name z q2) [.Name zl q1] [] q3, b] k2 pt2) pos) (dParNew i j c wp l t) := ⟨fun hK => by
  obtain ⟨rb, pb, sb⟩ := hb.ex hK
  refine ⟨_, ps_par hcm hN hi hj hij hx hy (pa_cons (pe_makeR M F hr hg hm pass0 (pa_cons ho pa_nil he) hdb he hpl) (pa_cons pb pa_nil he2) he1) hw hs, fun env W σ H E e S L h => ?_⟩
  unfold dParNew at h
  split at h
  case h_2 => exact h.elim
  rename_i rs hd
  obtain ⟨la, us, hwl, hσ, hl, rl, _⟩ := own_at S hd
  refine ⟨_, hσ, fun x dx hx0 hdx hne => ?_⟩
  have s1 := made_same (C := Λ.B.C c) hx0 hdx
  have nx : ¬ Λ.G W x := S.fresh hx0
  refine ⟨Λ.G W, rs, _, x, dx, la, us, rfl, upd_same, nx, fun a g => some_mono s1 (hG S a g), s1 _ _ hl, .inr (.inr ⟨_, hwl⟩), rl.up ?_, h, fun fs H1 dy gs hq grow hp hn rl2 => ⟨rfl, ?_⟩⟩
  · intro a o ha
    obtain ⟨g, ha⟩ := hid_some.mp ha
    have n : a ≠ x := ne_of_none ha hx0
    exact hid_some.mpr ⟨fun z => z.elim g n, s1 _ _ ha⟩
  have s2 : Same H H1 := fun a o ha => grow a o (ne_of_none ha hx0) (s1 _ _ ha)
  refine sb env W σ H1 _ _ _ (S.grow s2) (L.xok.on (.of s2)) hq fun d2 v2 H2 h2 S2 e2 r2 => ?_
  obtain ⟨⟨h11, h12, h13⟩, h2⟩ := h2
  have hp2 : H2 x = some (.ins (Λ.B.C c) dy gs) := (hid_some.mp (e2.vis _ _ (hid_some.mpr ⟨nx, hp⟩))).2
  have lfs : fs.length = gs.length := by have := rl2.len; rw [List.length_map] at this; exact this.symm
  have e12 : Ev Λ W H H2 := (Ev.of s2).trans e2
  obtain ⟨W', S5, v7, hG'⟩ := S.newMuG (i := i) (c := c) (ms := fs.map .va) (p := x) (o := .ins (Λ.B.C c) dy gs) (vs := gs.map (·.2)) (u := fun _ => none) (H' := H2) S2 e12 h11 h12 hx0 (fun _ _ _ h => h) hp2
    (.inr ⟨hcl, dy, gs, rfl, by rw [List.length_map, lfs, hn, ← List.length_map (f := (·.1)), hn, List.take_length], rfl⟩) (fun _ _ z => by cases z) (fun _ _ _ z => by cases z) ⟨0, fun _ _ => rfl⟩
    (mus_va (rl2.up fun a o ha => by
      obtain ⟨g, ha⟩ := hid_some.mp ha
      refine hid_some.mpr ⟨fun z => ?_, (hid_some.mp (e2.vis _ _ (hid_some.mpr ⟨fun z => g (.inl z), ha⟩))).2⟩
      rcases z with z | z | ⟨_, z⟩
      · exact g (.inl z)
      · exact g (.inr z)
      · cases z))
  refine ⟨.ref x, v2, rfl, L.nx _ _ _ _ h2 (S5.put (i := j) (Rep.nob hf (fun a o no ha => ?_) d2 v2 h13 r2)) v7⟩
  obtain ⟨g, ha⟩ := hid_some.mp ha
  refine hid_some.mpr ⟨fun z => ?_, ha⟩
  rcases hG' a z with z | z | ⟨_, z⟩
  · exact g z
  · rw [z, hp2] at ha
    cases ha
    exact no ⟨dy, gs, rfl, hn⟩
  · cases z⟩
end
end Eb

namespace K15
open PySem PySem.Spec PyProof.Rows L2 Eb
@[irreducible] def kv_ASKED : List (Str × D) := [("same", .int 2), ("less", .int 2), ("divides", .int 2), ("mirrored", .int 1), ("unlike", .int 1)]
@[irreducible] def kv_SIGNS : List (Str × D) := [("+", .str "xy"), ("-", .str "xy"), ("*", .str "xy"), ("//", .str "xy"), ("**", .str "xk")]
@[irreducible] def kv_PLAIN : List (Str × D) := [("number", .str "k"), ("base", .str ""), ("let", .str "x"), ("turned", .str "x"), ("least", .str "x"), ("greatest", .str "x"), ("sum", .str "x"), ("many", .str "x"), ("root", .str "x"), ("figure", .str "kx"), ("first", .str "kx"), ("last", .str "kx"), ("joined", .str "xy"), ("common", .str "xy"), ("lesser", .str "xy"), ("rest", .str "xy")]
noncomputable def t_flat_rows (wp : DW) : DS :=
  (dSeq (dSetO 1 (dLst dNil))
  (dSeq (dFor (dItT (dVar 0)) (gN 2) (dSeq (dApp 1 (dVar 2))
  (dExt 1 (dF0 wp (dCons (dFld [(9, 1), (10, 1), (11, 4), (12, 3)] (dVar 2)) dNil)))))
  (dFrz 1 (dRet (dVar 1)))))
@[irreducible] noncomputable def wp_flat_rows (n : Nat) : DW := Nat.rec (motive := fun _ => DW) (wpOf 1 2 dNever) (fun _ r => wpOf 1 2 (t_flat_rows r)) n
theorem wpz_flat_rows : wp_flat_rows 0 = wpOf 1 2 dNever := by unfold wp_flat_rows; rfl
theorem wps_flat_rows (n : Nat) : wp_flat_rows (n + 1) = wpOf 1 2 (t_flat_rows (wp_flat_rows n)) := by unfold wp_flat_rows; rfl
noncomputable def t_lines_of : DS :=
  (dSeq (dSetO 1 (dLst dNil))
  (dSeq (dFor (dItT (dVar 0)) (gN 2) (dExt 1 (dFld [(9, 0), (10, 0), (11, 3), (12, 2)] (dVar 2))))
  (dFrz 1 (dRet (dVar 1)))))
@[irreducible] noncomputable def wp_lines_of : DW := wpOf 1 2 t_lines_of
noncomputable def t_rows_of : DS :=
  (dSeq (dIfS (dOr (dNot (dTruth (dIsTs [.list, .tuple] [9, 10, 11, 12, 14, 15, 18, 19] (dVar 0)))) (dNot (dTruth (dCB allD (dCons (dL (dLc (dItQ (dVar 0)) (gN 1) dYes (dIsC [(9, true), (10, true), (11, true), (12, true), (14, false), (15, false), (18, false), (19, false)] (dVar 1)) [1])) dNil))))) (dRaise 4 (dCons (dC (.str "rows")) dNil)) dNext)
  (dRet (dCB tupleD (dCons (dVar 0) dNil))))
@[irreducible] noncomputable def wp_rows_of : DW := wpOf 1 1 t_rows_of
noncomputable def t_Program_init : DS :=
  (dSeq (dSelf 0 18 0 (dF wp_rows_of (dCons (dVar 1) dNil)))
  (dSeq (dSelf 0 18 1 (dF0 (wp_flat_rows 9) (dCons (dSeF 0 18 0) dNil)))
  (dSeq (dSelf 0 18 2 (dCB tupleD (dCons (dF0 wp_lines_of (dCons (dSeF 0 18 0) dNil)) dNil)))
  (dSelf 0 18 3 (dCB tupleD (dCons (dL (dSortS2 (dItL (dSeF 0 18 1)) (gN 2) (dItT (dFld [(9, 2), (10, 2), (11, 5), (12, 4)] (dVar 2))) (gN 3) (dCB strD (dCons (dVar 3) dNil)) [2, 3] [3])) dNil))))))
@[irreducible] noncomputable def wp_Program_init : DWI := wpDf (wpOfI 18 4 1 2 t_Program_init)
noncomputable def t1_Program_init : DS := (dSelf 0 18 0 (dF0 wp_rows_of (dCons (dVar 1) dNil)))
noncomputable def t2_Program_init : DS := (dSeq (dSelf 0 18 1 (dF0 (wp_flat_rows 9) (dCons (dSeF 0 18 0) dNil)))
  (dSeq (dSelf 0 18 2 (dCB tupleD (dCons (dF0 wp_lines_of (dCons (dSeF 0 18 0) dNil)) dNil)))
  (dSelf 0 18 3 (dCB tupleD (dCons (dL (dSortS2 (dItL (dSeF 0 18 1)) (gN 2) (dItT (dFld [(9, 2), (10, 2), (11, 5), (12, 4)] (dVar 2))) (gN 3) (dCB strD (dCons (dVar 3) dNil)) [2, 3] [3])) dNil)))))
@[irreducible] noncomputable def wpL_Program_init : DWL := wpIL 18 4 2 t1_Program_init t2_Program_init
noncomputable def t_Sheet_made : DS :=
  (dRet (dMk 18 wp_Program_init (dCons (dFld [(19, 0)] (dVar 0)) dNil)))
@[irreducible] noncomputable def wp_Sheet_made : DW := wpOf 1 0 t_Sheet_made
noncomputable def t_Row_eq : DS :=
  (dRet (dAndT (dIsC [(9, true), (10, true), (11, true), (12, true), (14, false), (15, false), (18, false), (19, false)] (dVar 1)) (dOp eqD (dFld [(9, 0), (10, 0), (11, 3), (12, 2)] (dVar 0)) (dFld [(9, 0), (10, 0), (11, 3), (12, 2)] (dVar 1)))))
@[irreducible] noncomputable def wp_Row_eq : DW := wpOf 2 0 t_Row_eq
noncomputable def t_Sheet_need_place : DS :=
  (dIfS (dNot (dTest (dChain leD ltD (dC (.int 0)) (dVar 1) (dCB lenD (dCons (dFld [(19, 0)] (dVar 0)) dNil))))) (dRaise 7 (dCons (dVar 1) dNil)) dNext)
@[irreducible] noncomputable def wp_Sheet_need_place : DW := wpOf 2 0 t_Sheet_need_place
noncomputable def t_Sheet_getitem : DS :=
  (dSeq (dDrop (dM 19 wp_Sheet_need_place (dVar 0) (dCons (dVar 1) dNil)))
  (dRet (dOp ixD (dFld [(19, 0)] (dVar 0)) (dVar 1))))
@[irreducible] noncomputable def wp_Sheet_getitem : DW := wpOf 2 0 t_Sheet_getitem
noncomputable def t__law_ask_text (wp : DW) : DS :=
  (dRet (dIf (dTest (dOp eqD (dOp ixD (dVar 0) (dC (.int 0))) (dC (.str "not")))) (dOp addD (dC (.str "not ")) (dF0 wp (dCons (dOp ixD (dVar 0) (dC (.int 1))) dNil))) (dJoin (dC (.str " ")) (dOp addD (dL (dLst (dCons (dOp ixD (dVar 0) (dC (.int 1))) dNil))) (dL (dCL listD (dCons (dOp ixD (dVar 0) (dC (.int 2))) dNil)))))))
@[irreducible] noncomputable def wp__law_ask_text (n : Nat) : DW := Nat.rec (motive := fun _ => DW) (wpOf 1 0 dNever) (fun _ r => wpOf 1 0 (t__law_ask_text r)) n
theorem wpz__law_ask_text : wp__law_ask_text 0 = wpOf 1 0 dNever := by unfold wp__law_ask_text; rfl
theorem wps__law_ask_text (n : Nat) : wp__law_ask_text (n + 1) = wpOf 1 0 (t__law_ask_text (wp__law_ask_text n)) := by unfold wp__law_ask_text; rfl
noncomputable def t__law_lines (wp0 wp1 : DW) : DS :=
  (dSeq (dIfS (dTest (dOp eqD (dOp ixD (dVar 0) (dC (.int 0))) (dC (.str "stop")))) (dRet (dL (dLst (dCons (dC (.str "stop")) dNil)))) dNext)
  (dSeq (dIfS (dTest (dOp eqD (dOp ixD (dVar 0) (dC (.int 0))) (dC (.str "put")))) (dSeq (dSet 1 (dL (dLc (dItT (dOp ixD (dVar 0) (dC (.int 3)))) (gN 3) dYes (dCB strD (dCons (dVar 3) dNil)) [3])))
  (dSeq (dIfS (dTest (dOp (inD false) (dOp ixD (dVar 0) (dC (.int 2))) (dTup (dCons (dC (.str "+")) (dCons (dC (.str "-")) (dCons (dC (.str "*")) (dCons (dC (.str "//")) (dCons (dC (.str "**")) dNil)))))))) (dRet (dL (dLst (dCons (dOp addD (dOp addD (dOp addD (dOp addD (dOp addD (dOp addD (dOp ixD (dVar 0) (dC (.int 1))) (dC (.str " = "))) (dOp ixD (dVar 1) (dC (.int 0)))) (dC (.str " "))) (dOp ixD (dVar 0) (dC (.int 2)))) (dC (.str " "))) (dOp ixD (dVar 1) (dC (.int 1)))) dNil)))) dNext)
  (dRet (dL (dLst (dCons (dJoin (dC (.str " ")) (dOp addD (dL (dLst (dCons (dOp ixD (dVar 0) (dC (.int 1))) (dCons (dC (.str "=")) (dCons (dOp ixD (dVar 0) (dC (.int 2))) dNil))))) (dVar 1))) dNil)))))) dNext)
  (dSeq (dSet 2 (dF0 wp1 (dCons (dOp ixD (dVar 0) (dC (.int 2))) dNil)))
  (dSeq (dIfS (dTest (dOp eqD (dOp ixD (dVar 0) (dC (.int 0))) (dC (.str "times")))) (dRet (dOp addD (dOp addD (dL (dLst (dCons (dOp addD (dC (.str "times ")) (dCB strD (dCons (dOp ixD (dVar 0) (dC (.int 1))) dNil))) dNil))) (dVar 2)) (dL (dLst (dCons (dC (.str "end")) dNil))))) dNext)
  (dSeq (dIfS (dTest (dOp gtD (dCB lenD (dCons (dOp ixD (dVar 0) (dC (.int 3))) dNil)) (dC (.int 0)))) (dSet 2 (dOp addD (dOp addD (dVar 2) (dL (dLst (dCons (dC (.str "else")) dNil)))) (dF0 wp1 (dCons (dOp ixD (dVar 0) (dC (.int 3))) dNil)))) dNext)
  (dRet (dOp addD (dOp addD (dL (dLst (dCons (dOp addD (dC (.str "if ")) (dF0 (wp__law_ask_text 9) (dCons (dOp ixD (dVar 0) (dC (.int 1))) dNil))) dNil))) (dVar 2)) (dL (dLst (dCons (dC (.str "end")) dNil))))))))))
noncomputable def t__law_all_lines (wp0 wp1 : DW) : DS :=
  (dSeq (dSetO 1 (dLst dNil))
  (dSeq (dFor (dItQ (dVar 0)) (gN 2) (dExt 1 (dF0 wp0 (dCons (dVar 2) dNil))))
  (dFrz 1 (dRet (dVar 1)))))
@[irreducible] noncomputable def wpg__law_lines (n : Nat) : Nat → DW := Nat.rec (motive := fun _ => Nat → DW) (fun j => match j with | 0 => wpOf 1 3 dNever | _ => wpOf 1 2 dNever) (fun _ r j => match j with | 0 => wpOf 1 3 (t__law_lines (r 0) (r 1)) | _ => wpOf 1 2 (t__law_all_lines (r 0) (r 1))) n
@[irreducible] noncomputable def wp__law_lines (n : Nat) : DW := wpg__law_lines n 0
@[irreducible] noncomputable def wp__law_all_lines (n : Nat) : DW := wpg__law_lines n 1
theorem wpz__law_lines : wp__law_lines 0 = wpOf 1 3 dNever := by unfold wp__law_lines wpg__law_lines; rfl
theorem wps__law_lines (n : Nat) : wp__law_lines (n + 1) = wpOf 1 3 (t__law_lines (wp__law_lines n) (wp__law_all_lines n)) := by
  unfold wp__law_lines wp__law_all_lines
  rw [show wpg__law_lines (n + 1) 0 = wpOf 1 3 (t__law_lines (wpg__law_lines n 0) (wpg__law_lines n 1)) from by unfold wpg__law_lines; rfl]
theorem wpz__law_all_lines : wp__law_all_lines 0 = wpOf 1 2 dNever := by unfold wp__law_all_lines wpg__law_lines; rfl
theorem wps__law_all_lines (n : Nat) : wp__law_all_lines (n + 1) = wpOf 1 2 (t__law_all_lines (wp__law_lines n) (wp__law_all_lines n)) := by
  unfold wp__law_lines wp__law_all_lines
  rw [show wpg__law_lines (n + 1) 1 = wpOf 1 2 (t__law_all_lines (wpg__law_lines n 0) (wpg__law_lines n 1)) from by unfold wpg__law_lines; rfl]
noncomputable def t_Test_init_Ask : DS :=
  (dSeq (dSelf 0 14 0 (dVar 1))
  (dSelf 0 14 1 (dCB tupleD (dCons (dVar 2) dNil))))
@[irreducible] noncomputable def wp_Test_init_Ask : DWS := wpOfS 14 2 0 t_Test_init_Ask
noncomputable def t_is_name : DS :=
  (dSeq (dIfS (dOr (dNot (dTruth (dIsT .str [9, 10, 11, 12, 14, 15, 18, 19] (dVar 0)))) (dNot (dTest (dChain leD leD (dC (.int 1)) (dCB lenD (dCons (dVar 0) dNil)) (dC (.int 4)))))) (dRet (dC (.bl false))) dNext)
  (dRet (dCB allD (dCons (dL (dLc (dItS (dVar 0)) (gN 1) dYes (dOp (inSD false) (dVar 1) (dC (.str "abcdefghijklmnopqrstuvwxyz"))) [1])) dNil))))
@[irreducible] noncomputable def wp_is_name : DW := wpOf 1 1 t_is_name
noncomputable def t_Ask_init : DS :=
  dSeq (dSeq (dIfS (dOr (dNot (dTruth (dIsT .str [9, 10, 11, 12, 14, 15, 18, 19] (dVar 1)))) (dTest (dGIn true kv_ASKED (dVar 1)))) dNever dNext)
  (dIfS (dOr (dTest (dOp neD (dCB lenD (dCons (dVar 2) dNil)) (dGIx kv_ASKED (dVar 1)))) (dNot (dTruth (dCB allD (dCons (dL (dLc (dItT (dVar 2)) (gN 3) dYes (dF0 wp_is_name (dCons (dVar 3) dNil)) [3])) dNil))))) dNever dNext))
  (dSeq (dSupS 14 wp_Test_init_Ask (dCons (dJoin (dC (.str " ")) (dOp addD (dL (dLst (dCons (dVar 1) dNil))) (dL (dCL listD (dCons (dVar 2) dNil))))) (dCons (dVar 2) dNil)))
  (dSeq (dSelf 0 14 2 (dVar 1))
  (dSelf 0 14 3 (dVar 2))))
@[irreducible] noncomputable def wp_Ask_init : DWI := wpStar 1 (wpOfI 14 4 2 1 t_Ask_init)
noncomputable def t_Test_init_Not : DS :=
  (dSeq (dSelf 0 15 0 (dVar 1))
  (dSelf 0 15 1 (dCB tupleD (dCons (dVar 2) dNil))))
@[irreducible] noncomputable def wp_Test_init_Not : DWS := wpOfS 15 2 0 t_Test_init_Not
noncomputable def t_Test_str : DS :=
  (dRet (dFmt (dFld [(14, 0), (15, 0)] (dVar 0))))
@[irreducible] noncomputable def wp_Test_str : DW := wpOf 1 0 t_Test_str
noncomputable def t_Not_init : DS :=
  dSeq (dIfS (dNot (dTruth (dIsC [(9, false), (10, false), (11, false), (12, false), (14, true), (15, true), (18, false), (19, false)] (dVar 1)))) dNever dNext)
  (dSeq (dSupS 15 wp_Test_init_Not (dCons (dJoined [(dC (.str "not ")), (dFmtM [14, 15] wp_Test_str (dVar 1))]) (dCons (dFld [(14, 1), (15, 1)] (dVar 1)) dNil)))
  (dSelf 0 15 2 (dVar 1)))
@[irreducible] noncomputable def wp_Not_init : DWI := (wpOfI 15 3 1 0 t_Not_init)
noncomputable def t__law_ask_of (wp : DW) : DS :=
  (dSeq (dIfS (dTest (dOp eqD (dOp ixD (dVar 0) (dC (.int 0))) (dC (.str "not")))) (dRet (dMk 15 wp_Not_init (dCons (dF0 wp (dCons (dOp ixD (dVar 0) (dC (.int 1))) dNil)) dNil))) dNext)
  (dSeq (dIfS (dTest (dOp eqD (dCB lenD (dCons (dOp ixD (dVar 0) (dC (.int 2))) dNil)) (dC (.int 1)))) (dRet (dMk 14 wp_Ask_init (dCons (dOp ixD (dVar 0) (dC (.int 1))) (dCons (dOp ixD (dOp ixD (dVar 0) (dC (.int 2))) (dC (.int 0))) dNil)))) dNext)
  (dRet (dMk 14 wp_Ask_init (dCons (dOp ixD (dVar 0) (dC (.int 1))) (dCons (dOp ixD (dOp ixD (dVar 0) (dC (.int 2))) (dC (.int 0))) (dCons (dOp ixD (dOp ixD (dVar 0) (dC (.int 2))) (dC (.int 1))) dNil)))))))
@[irreducible] noncomputable def wp__law_ask_of (n : Nat) : DW := Nat.rec (motive := fun _ => DW) (wpOf 1 0 dNever) (fun _ r => wpOf 1 0 (t__law_ask_of r)) n
theorem wpz__law_ask_of : wp__law_ask_of 0 = wpOf 1 0 dNever := by unfold wp__law_ask_of; rfl
theorem wps__law_ask_of (n : Nat) : wp__law_ask_of (n + 1) = wpOf 1 0 (t__law_ask_of (wp__law_ask_of n)) := by unfold wp__law_ask_of; rfl
noncomputable def t_Row_init_If : DS :=
  (dSeq (dSelf 0 11 3 (dCB tupleD (dCons (dVar 1) dNil)))
  (dSeq (dSelf 0 11 4 (dCB tupleD (dCons (dVar 2) dNil)))
  (dSelf 0 11 5 (dCB tupleD (dCons (dVar 3) dNil)))))
@[irreducible] noncomputable def wp_Row_init_If : DWS := wpOfS 11 3 0 t_Row_init_If
noncomputable def t_If_init : DS :=
  dSeq (dSeq (dIfS (dNot (dTruth (dIsC [(9, false), (10, false), (11, false), (12, false), (14, true), (15, true), (18, false), (19, false)] (dVar 1)))) dNever dNext)
  (dSeq (dSelf 0 11 0 (dVar 1))
  (dSeq (dSelf 0 11 1 (dF0 wp_rows_of (dCons (dVar 2) dNil)))
  (dSeq (dSelf 0 11 2 (dF0 wp_rows_of (dCons (dVar 3) dNil)))
  (dSeq (dSet 4 (dIf (dTest (dOp eqD (dCB lenD (dCons (dSeF 0 11 2) dNil)) (dC (.int 0)))) (dL (dLst dNil)) (dOp addD (dL (dLst (dCons (dC (.str "else")) dNil))) (dF0 wp_lines_of (dCons (dSeF 0 11 2) dNil)))))
  (dSet 5 (dOp addD (dOp addD (dOp addD (dL (dLst (dCons (dJoined [(dC (.str "if ")), (dFmtM [14, 15] wp_Test_str (dVar 1))]) dNil))) (dF0 wp_lines_of (dCons (dSeF 0 11 1) dNil))) (dVar 4)) (dL (dLst (dCons (dC (.str "end")) dNil))))))))))
  (dSeq (dSupS 11 wp_Row_init_If (dCons (dVar 5) (dCons (dOp addD (dSeF 0 11 1) (dSeF 0 11 2)) (dCons (dFld [(14, 1), (15, 1)] (dVar 1)) dNil))))
  dNext)
@[irreducible] noncomputable def wp_If_init : DWI := (wpOfI 11 6 3 2 t_If_init)
noncomputable def t_Row_init_Put : DS :=
  (dSeq (dSelf 0 9 0 (dCB tupleD (dCons (dVar 1) dNil)))
  (dSeq (dSelf 0 9 1 (dCB tupleD (dCons (dVar 2) dNil)))
  (dSelf 0 9 2 (dCB tupleD (dCons (dVar 3) dNil)))))
@[irreducible] noncomputable def wp_Row_init_Put : DWS := wpOfS 9 3 0 t_Row_init_Put
noncomputable def t_is_integer : DS :=
  (dRet (dAndT (dIsT .int [9, 10, 11, 12, 14, 15, 18, 19] (dVar 0)) (dNotT (dIsT .bool [9, 10, 11, 12, 14, 15, 18, 19] (dVar 0)))))
@[irreducible] noncomputable def wp_is_integer : DW := wpOf 1 0 t_is_integer
noncomputable def t_is_number : DS :=
  (dRet (dAndT (dF0 wp_is_integer (dCons (dVar 0) dNil)) (dOp geD (dVar 0) (dC (.int 0)))))
@[irreducible] noncomputable def wp_is_number : DW := wpOf 1 0 t_is_number
noncomputable def t_are_given : DS :=
  (dSeq (dIfS (dTest (dOp eqD (dVar 0) (dC (.str "figures")))) (dRet (dAndT (dOp gtD (dCB lenD (dCons (dVar 1) dNil)) (dC (.int 0))) (dCB allD (dCons (dL (dLc (dItT (dVar 1)) (gN 4) dYes (dF0 wp_is_number (dCons (dVar 4) dNil)) [4])) dNil)))) dNext)
  (dSeq (dSet 2 (dGGet kv_SIGNS (dVar 0) (dGGet kv_PLAIN (dVar 0) (dC (.str "")))))
  (dSeq (dIfS (dTest (dOp neD (dCB lenD (dCons (dVar 1) dNil)) (dCB lenD (dCons (dVar 2) dNil)))) (dRet (dC (.bl false))) dNext)
  (dRet (dCB allD (dCons (dL (dLc (dZpS (dVar 2) (dVar 1)) (gT [3, 4]) dYes (dIf (dTest (dOp eqD (dVar 3) (dC (.str "k")))) (dF0 wp_is_number (dCons (dVar 4) dNil)) (dF0 wp_is_name (dCons (dVar 4) dNil))) [3, 4])) dNil))))))
@[irreducible] noncomputable def wp_are_given : DW := wpOf 2 3 t_are_given
noncomputable def t_is_deed : DS :=
  (dRet (dAndT (dIsT .str [9, 10, 11, 12, 14, 15, 18, 19] (dVar 0)) (dOrT (dOp eqD (dVar 0) (dC (.str "figures"))) (dOrT (dGIn false kv_SIGNS (dVar 0)) (dGIn false kv_PLAIN (dVar 0))))))
@[irreducible] noncomputable def wp_is_deed : DW := wpOf 1 0 t_is_deed
noncomputable def t_put_line : DS :=
  (dSeq (dSet 3 (dL (dLc (dItT (dVar 2)) (gN 5) dYes (dCB strD (dCons (dVar 5) dNil)) [5])))
  (dSeq (dSet 4 (dIf (dTest (dGIn false kv_SIGNS (dVar 1))) (dOp addD (dOp addD (dSl (dVar 3) dNoPart (dPart (dC (.int 1)))) (dL (dLst (dCons (dVar 1) dNil)))) (dSl (dVar 3) (dPart (dC (.int 1))) dNoPart)) (dOp addD (dL (dLst (dCons (dVar 1) dNil))) (dVar 3))))
  (dRet (dJoin (dC (.str " ")) (dOp addD (dL (dLst (dCons (dVar 0) (dCons (dC (.str "=")) dNil)))) (dVar 4))))))
@[irreducible] noncomputable def wp_put_line : DW := wpOf 3 3 t_put_line
noncomputable def t_Put_init : DS :=
  dSeq (dSeq (dIfS (dNot (dTruth (dF0 wp_is_name (dCons (dVar 1) dNil)))) dNever dNext)
  (dSeq (dIfS (dNot (dTruth (dF0 wp_is_deed (dCons (dVar 2) dNil)))) dNever dNext)
  (dIfS (dNot (dTruth (dF0 wp_are_given (dCons (dVar 2) (dCons (dVar 3) dNil))))) dNever dNext)))
  (dSeq (dSupS 9 wp_Row_init_Put (dCons (dL (dLst (dCons (dF0 wp_put_line (dCons (dVar 1) (dCons (dVar 2) (dCons (dVar 3) dNil)))) dNil))) (dCons (dL (dLst dNil)) (dCons (dOp addD (dL (dLst (dCons (dVar 1) dNil))) (dL (dLc (dItT (dVar 3)) (gN 4) (dTruth (dIsT .str [9, 10, 11, 12, 14, 15, 18, 19] (dVar 4))) (dVar 4) [4]))) dNil))))
  (dSeq (dSelf 0 9 3 (dVar 1))
  (dSeq (dSelf 0 9 4 (dVar 2))
  (dSelf 0 9 5 (dVar 3)))))
@[irreducible] noncomputable def wp_Put_init : DWI := wpStar 2 (wpOfI 9 6 3 1 t_Put_init)
noncomputable def t_Row_init_Stop : DS :=
  (dSeq (dSelf 0 10 0 (dCB tupleD (dCons (dVar 1) dNil)))
  (dSeq (dSelf 0 10 1 (dCB tupleD (dCons (dVar 2) dNil)))
  (dSelf 0 10 2 (dCB tupleD (dCons (dVar 3) dNil)))))
@[irreducible] noncomputable def wp_Row_init_Stop : DWS := wpOfS 10 3 0 t_Row_init_Stop
noncomputable def t_Stop_init : DS :=
  dSeq dNext
  (dSeq (dSupS 10 wp_Row_init_Stop (dCons (dL (dLst (dCons (dC (.str "stop")) dNil))) (dCons (dL (dLst dNil)) (dCons (dL (dLst dNil)) dNil))))
  dNext)
@[irreducible] noncomputable def wp_Stop_init : DWI := (wpOfI 10 3 0 0 t_Stop_init)
noncomputable def t_Row_init_Times : DS :=
  (dSeq (dSelf 0 12 2 (dCB tupleD (dCons (dVar 1) dNil)))
  (dSeq (dSelf 0 12 3 (dCB tupleD (dCons (dVar 2) dNil)))
  (dSelf 0 12 4 (dCB tupleD (dCons (dVar 3) dNil)))))
@[irreducible] noncomputable def wp_Row_init_Times : DWS := wpOfS 12 3 0 t_Row_init_Times
noncomputable def t_Times_init : DS :=
  dSeq (dSeq (dIfS (dNot (dTruth (dF0 wp_is_number (dCons (dVar 1) dNil)))) dNever dNext)
  (dSeq (dSelf 0 12 0 (dVar 1))
  (dSelf 0 12 1 (dF0 wp_rows_of (dCons (dVar 2) dNil)))))
  (dSeq (dSupS 12 wp_Row_init_Times (dCons (dOp addD (dOp addD (dL (dLst (dCons (dJoined [(dC (.str "times ")), (dFmt (dVar 1))]) dNil))) (dF0 wp_lines_of (dCons (dSeF 0 12 1) dNil))) (dL (dLst (dCons (dC (.str "end")) dNil)))) (dCons (dSeF 0 12 1) (dCons (dL (dLst dNil)) dNil))))
  dNext)
@[irreducible] noncomputable def wp_Times_init : DWI := (wpOfI 12 5 2 0 t_Times_init)
noncomputable def t__law_row_of (wp : DW) : DS :=
  (dSeq (dIfS (dTest (dOp eqD (dOp ixD (dVar 0) (dC (.int 0))) (dC (.str "stop")))) (dRet (dMk 10 wp_Stop_init dNil)) dNext)
  (dSeq (dIfS (dTest (dOp eqD (dOp ixD (dVar 0) (dC (.int 0))) (dC (.str "times")))) (dRet (dMk 12 wp_Times_init (dCons (dOp ixD (dVar 0) (dC (.int 1))) (dCons (dL (dLc (dItT (dOp ixD (dVar 0) (dC (.int 2)))) (gN 3) dYes (dF0 wp (dCons (dVar 3) dNil)) [3])) dNil)))) dNext)
  (dSeq (dIfS (dTest (dOp eqD (dOp ixD (dVar 0) (dC (.int 0))) (dC (.str "if")))) (dSeq (dSet 1 (dCB tupleD (dCons (dL (dLc (dItT (dOp ixD (dVar 0) (dC (.int 3)))) (gN 3) dYes (dF0 wp (dCons (dVar 3) dNil)) [3])) dNil)))
  (dRet (dMk 11 wp_If_init (dCons (dF0 (wp__law_ask_of 9) (dCons (dOp ixD (dVar 0) (dC (.int 1))) dNil)) (dCons (dL (dLc (dItT (dOp ixD (dVar 0) (dC (.int 2)))) (gN 3) dYes (dF0 wp (dCons (dVar 3) dNil)) [3])) (dCons (dVar 1) dNil)))))) dNext)
  (dSeq (dSet 2 (dOp ixD (dVar 0) (dC (.int 3))))
  (dSeq (dIfS (dTest (dOp eqD (dCB lenD (dCons (dVar 2) dNil)) (dC (.int 0)))) (dRet (dMk 9 wp_Put_init (dCons (dOp ixD (dVar 0) (dC (.int 1))) (dCons (dOp ixD (dVar 0) (dC (.int 2))) dNil)))) dNext)
  (dSeq (dIfS (dTest (dOp eqD (dCB lenD (dCons (dVar 2) dNil)) (dC (.int 1)))) (dRet (dMk 9 wp_Put_init (dCons (dOp ixD (dVar 0) (dC (.int 1))) (dCons (dOp ixD (dVar 0) (dC (.int 2))) (dCons (dOp ixD (dVar 2) (dC (.int 0))) dNil))))) dNext)
  (dSeq (dIfS (dTest (dOp eqD (dCB lenD (dCons (dVar 2) dNil)) (dC (.int 2)))) (dRet (dMk 9 wp_Put_init (dCons (dOp ixD (dVar 0) (dC (.int 1))) (dCons (dOp ixD (dVar 0) (dC (.int 2))) (dCons (dOp ixD (dVar 2) (dC (.int 0))) (dCons (dOp ixD (dVar 2) (dC (.int 1))) dNil)))))) dNext)
  (dSeq (dIfS (dTest (dOp eqD (dCB lenD (dCons (dVar 2) dNil)) (dC (.int 3)))) (dRet (dMk 9 wp_Put_init (dCons (dOp ixD (dVar 0) (dC (.int 1))) (dCons (dOp ixD (dVar 0) (dC (.int 2))) (dCons (dOp ixD (dVar 2) (dC (.int 0))) (dCons (dOp ixD (dVar 2) (dC (.int 1))) (dCons (dOp ixD (dVar 2) (dC (.int 2))) dNil))))))) dNext)
  (dSeq (dIfS (dTest (dOp eqD (dCB lenD (dCons (dVar 2) dNil)) (dC (.int 4)))) (dRet (dMk 9 wp_Put_init (dCons (dOp ixD (dVar 0) (dC (.int 1))) (dCons (dOp ixD (dVar 0) (dC (.int 2))) (dCons (dOp ixD (dVar 2) (dC (.int 0))) (dCons (dOp ixD (dVar 2) (dC (.int 1))) (dCons (dOp ixD (dVar 2) (dC (.int 2))) (dCons (dOp ixD (dVar 2) (dC (.int 3))) dNil)))))))) dNext)
  (dSeq (dIfS (dTest (dOp eqD (dCB lenD (dCons (dVar 2) dNil)) (dC (.int 5)))) (dRet (dMk 9 wp_Put_init (dCons (dOp ixD (dVar 0) (dC (.int 1))) (dCons (dOp ixD (dVar 0) (dC (.int 2))) (dCons (dOp ixD (dVar 2) (dC (.int 0))) (dCons (dOp ixD (dVar 2) (dC (.int 1))) (dCons (dOp ixD (dVar 2) (dC (.int 2))) (dCons (dOp ixD (dVar 2) (dC (.int 3))) (dCons (dOp ixD (dVar 2) (dC (.int 4))) dNil))))))))) dNext)
  (dRet (dMk 9 wp_Put_init (dCons (dOp ixD (dVar 0) (dC (.int 1))) (dCons (dOp ixD (dVar 0) (dC (.int 2))) (dCons (dOp ixD (dVar 2) (dC (.int 0))) (dCons (dOp ixD (dVar 2) (dC (.int 1))) (dCons (dOp ixD (dVar 2) (dC (.int 2))) (dCons (dOp ixD (dVar 2) (dC (.int 3))) (dCons (dOp ixD (dVar 2) (dC (.int 4))) (dCons (dOp ixD (dVar 2) (dC (.int 5))) dNil))))))))))))))))))))
@[irreducible] noncomputable def wp__law_row_of (n : Nat) : DW := Nat.rec (motive := fun _ => DW) (wpOf 1 3 dNever) (fun _ r => wpOf 1 3 (t__law_row_of r)) n
theorem wpz__law_row_of : wp__law_row_of 0 = wpOf 1 3 dNever := by unfold wp__law_row_of; rfl
theorem wps__law_row_of (n : Nat) : wp__law_row_of (n + 1) = wpOf 1 3 (t__law_row_of (wp__law_row_of n)) := by unfold wp__law_row_of; rfl
noncomputable def t_Program_str : DS :=
  (dRet (dJoin (dC (.str "
")) (dFld [(18, 2)] (dVar 0))))
@[irreducible] noncomputable def wp_Program_str : DW := wpOf 1 0 t_Program_str
noncomputable def t_Sheet_len : DS :=
  (dRet (dCB lenD (dCons (dFld [(19, 0)] (dVar 0)) dNil)))
@[irreducible] noncomputable def wp_Sheet_len : DW := wpOf 1 0 t_Sheet_len
noncomputable def t__law_alike : DS :=
  (dSeq (dIfS (dOr (dTest (dOp neD (dCB (lenOD 19 wp_Sheet_len) (dCons (dVar 0) dNil)) (dCB lenD (dCons (dVar 1) dNil)))) (dTest (dOp neD (dCB (strOD 18 wp_Program_str) (dCons (dM0 19 wp_Sheet_made (dVar 0) dNil) dNil)) (dJoin (dC (.str "
")) (dF0 (wp__law_all_lines 20) (dCons (dVar 1) dNil)))))) (dRet (dC (.bl false))) dNext)
  (dRet (dOp eqND (dL (dLc (dEn isL (dVar 1)) (gT [2, 3]) (dNot (dTest (dOp (eqMD [9, 10, 11, 12] [9, 10, 11, 12, 14, 15] wp_Row_eq) (dOp (ixOD 19 wp_Sheet_getitem) (dVar 0) (dVar 2)) (dF0 (wp__law_row_of 9) (dCons (dVar 3) dNil))))) (dC (.int 1)) [2, 3])) (dL (dLst dNil)))))
@[irreducible] noncomputable def wp__law_alike : DW := wpOf 2 2 t__law_alike
noncomputable def t_Sheet_init : DS :=
  (dSelf 0 19 0 (dF wp_rows_of (dCons (dVar 1) dNil)))
@[irreducible] noncomputable def wp_Sheet_init : DWI := wpDf (wpOfI 19 1 1 0 t_Sheet_init)
noncomputable def t1_Sheet_init : DS := (dSelf 0 19 0 (dF0 wp_rows_of (dCons (dVar 1) dNil)))
noncomputable def t2_Sheet_init : DS := dNext
@[irreducible] noncomputable def wpL_Sheet_init : DWL := wpIL 19 1 0 t1_Sheet_init t2_Sheet_init
noncomputable def t__law_begun : DS :=
  (dSeq (dSet 1 (dC .non))
  (dSeq (dTryAs [7, 4] [4] 2 (dDrop (dMkX 19 wp_Sheet_init (dCons (dVar 0) dNil))) (fun a cls od => (dSet 1 (dErF 2 a cls od 4))))
  (dRet (dVar 1))))
@[irreducible] noncomputable def wp__law_begun : DW := wpOf 1 2 t__law_begun
noncomputable def t__law_count (wp : DW) : DS :=
  (dSeq (dIfS (dTest (dOp eqD (dOp ixD (dVar 0) (dC (.int 0))) (dC (.str "if")))) (dRet (dOp addD (dC (.int 1)) (dCB sumD (dCons (dL (dLc (dItT (dOp addD (dOp ixD (dVar 0) (dC (.int 2))) (dOp ixD (dVar 0) (dC (.int 3))))) (gN 1) dYes (dF0 wp (dCons (dVar 1) dNil)) [1])) dNil)))) dNext)
  (dRet (dIf (dTest (dOp eqD (dOp ixD (dVar 0) (dC (.int 0))) (dC (.str "times")))) (dOp addD (dC (.int 1)) (dCB sumD (dCons (dL (dLc (dItT (dOp ixD (dVar 0) (dC (.int 2)))) (gN 1) dYes (dF0 wp (dCons (dVar 1) dNil)) [1])) dNil))) (dC (.int 1)))))
@[irreducible] noncomputable def wp__law_count (n : Nat) : DW := Nat.rec (motive := fun _ => DW) (wpOf 1 1 dNever) (fun _ r => wpOf 1 1 (t__law_count r)) n
theorem wpz__law_count : wp__law_count 0 = wpOf 1 1 dNever := by unfold wp__law_count; rfl
theorem wps__law_count (n : Nat) : wp__law_count (n + 1) = wpOf 1 1 (t__law_count (wp__law_count n)) := by unfold wp__law_count; rfl
noncomputable def t_Sheet_drop : DS :=
  (dSeq (dDrop (dPkV (D.nob 19) 0 19 1 (dM 19 wp_Sheet_need_place (dVar 0) (dCons (dVar 1) dNil))))
  (dMuSet 0 19 0 (dPkV (D.nob 19) 0 19 1 (dOp addD (dSl (dFld [(19, 0)] (dVar 0)) dNoPart (dPart (dVar 1))) (dSl (dFld [(19, 0)] (dVar 0)) (dPart (dOp addD (dVar 1) (dC (.int 1)))) dNoPart)))))
@[irreducible] noncomputable def wp_Sheet_drop : DWM := wpOfM 19 1 0 t_Sheet_drop
noncomputable def t_Row_str : DS :=
  (dRet (dJoin (dC (.str "
")) (dFld [(9, 0), (10, 0), (11, 3), (12, 2)] (dVar 0))))
@[irreducible] noncomputable def wp_Row_str : DW := wpOf 1 0 t_Row_str
noncomputable def t_need_one : DS :=
  (dIfS (dNot (dTruth (dIsC [(9, true), (10, true), (11, true), (12, true), (14, false), (15, false), (18, false), (19, false)] (dVar 0)))) (dRaise 4 (dCons (dC (.str "rows")) dNil)) dNext)
@[irreducible] noncomputable def wp_need_one : DW := wpOf 1 0 t_need_one
noncomputable def t1_Sheet_iadd : DS :=
  (dDrop (dF wp_need_one (dCons (dVar 1) dNil)))
noncomputable def t2_Sheet_iadd : DS :=
  (dMuSet 0 19 0 (dPkV (D.nob 19) 0 19 1 (dOp addD (dFld [(19, 0)] (dVar 0)) (dTup (dCons (dVar 1) dNil)))))
@[irreducible] noncomputable def wp_Sheet_iadd : DWM := wpOfMS 19 1 0 t1_Sheet_iadd t2_Sheet_iadd
noncomputable def t_Sheet_setitem : DS :=
  (dSeq (dDrop (dPkV (D.nob 19) 0 19 1 (dM 19 wp_Sheet_need_place (dVar 0) (dCons (dVar 1) dNil))))
  (dSeq (dDrop (dF wp_need_one (dCons (dVar 2) dNil)))
  (dMuSet 0 19 0 (dPkV (D.nob 19) 0 19 1 (dOp addD (dOp addD (dSl (dFld [(19, 0)] (dVar 0)) dNoPart (dPart (dVar 1))) (dTup (dCons (dVar 2) dNil))) (dSl (dFld [(19, 0)] (dVar 0)) (dPart (dOp addD (dVar 1) (dC (.int 1)))) dNoPart))))))
@[irreducible] noncomputable def wp_Sheet_setitem : DWM := wpOfM 19 2 0 t_Sheet_setitem
noncomputable def t__law_deed : DS :=
  (dSeq (dSet 4 (dC .non))
  (dSeq (dTryM [7, 4] (dIfS (dTest (dOp eqD (dVar 1) (dC (.int 0)))) (dAugM 0 19 wp_Sheet_iadd (dVar 3)) (dIfS (dTest (dOp eqD (dVar 1) (dC (.int 1)))) (dSetM2 0 19 wp_Sheet_setitem (dVar 2) (dVar 3)) (dIfS (dTest (dOp eqD (dVar 1) (dC (.int 2)))) (dDropM (dMM 0 19 wp_Sheet_drop (dCons (dVar 2) dNil))) (dSet 4 (dPkV (D.nob 19) 0 19 1 (dTup (dCons (dC (.str "told")) (dCons (dCB (strMD [9, 10, 11, 12] wp_Row_str) (dCons (dOp (ixXD 19 wp_Sheet_getitem) (dVar 0) (dVar 2)) dNil)) dNil)))))))) [⟨[7], some 5, fun a cls od => (dSet 4 (dTup (dCons (dC (.str "none")) (dCons (dErF 5 a cls od 7) dNil))))⟩, ⟨[4], some 5, fun a cls od => (dSet 4 (dTup (dCons (dC (.str "rows")) (dCons (dErF 5 a cls od 4) dNil))))⟩])
  (dRet (dVar 4))))
@[irreducible] noncomputable def wp__law_deed : DWM := wpOfM 19 3 2 t__law_deed
noncomputable def t__law_kinds : DS :=
  (dSeq (dSetOd 0 (dDisp ["number", "base", "**", "figure", "first", "last"] (dCons (dC (.str "k")) (dCons (dC (.str "")) (dCons (dC (.str "xk")) (dCons (dC (.str "kx")) (dCons (dC (.str "kx")) (dCons (dC (.str "kx")) dNil))))))))
  (dSeq (dFor (dItT (dTup (dCons (dC (.str "let")) (dCons (dC (.str "turned")) (dCons (dC (.str "least")) (dCons (dC (.str "greatest")) (dCons (dC (.str "sum")) (dCons (dC (.str "many")) (dCons (dC (.str "root")) dNil))))))))) (gN 1) (dDPut 0 (dVar 1) (dC (.str "x"))))
  (dSeq (dFor (dItT (dTup (dCons (dC (.str "+")) (dCons (dC (.str "-")) (dCons (dC (.str "*")) (dCons (dC (.str "//")) (dCons (dC (.str "rest")) (dCons (dC (.str "joined")) (dCons (dC (.str "common")) (dCons (dC (.str "lesser")) dNil)))))))))) (gN 1) (dDPut 0 (dVar 1) (dC (.str "xy"))))
  (dFrzD 0 (dRet (dVar 0))))))
@[irreducible] noncomputable def wp__law_kinds : DW := wpOf 0 2 t__law_kinds
noncomputable def t__law_pick : DS :=
  (dRet (dOp ixD (dVar 1) (dG0 0 wpDraw (dCons (dCB lenD (dCons (dVar 1) dNil)) dNil))))
@[irreducible] noncomputable def wp__law_pick : DW := wpOfG 1 0 t__law_pick
noncomputable def t__law_put : DS :=
  (dSeq (dSet 3 (dF0 wp__law_kinds dNil))
  (dSeq (dSet 4 (dG0 0 wp__law_pick (dCons (dOp addD (dL (dCL sortedSD (dCons (dL (dLc (dItD (dVar 3)) (gN 9) dYes (dCB strD (dCons (dVar 9) dNil)) [9])) dNil))) (dL (dLst (dCons (dC (.str "figures")) (dCons (dC (.str "figures")) (dCons (dC (.str "+")) (dCons (dC (.str "-")) (dCons (dC (.str "*")) (dCons (dC (.str "number")) dNil))))))))) dNil)))
  (dSeq (dIfS (dTest (dOp eqD (dVar 4) (dC (.str "figures")))) (dSetO 5 (dLc (dRg1 (dCons (dOp addD (dC (.int 1)) (dG0 0 wpDraw (dCons (dC (.int 6)) dNil))) dNil)) (gN 8) dYes (dG0 0 wpDraw (dCons (dOp ixD (dL (dLst (dCons (dC (.int 3)) (dCons (dC (.int 10)) (dCons (dC (.int 36)) dNil))))) (dG0 0 wpDraw (dCons (dC (.int 3)) dNil))) dNil)) [8])) (dIfS (dTest (dOp eqD (dVar 4) (dC (.str "**")))) (dSetO 5 (dLst (dCons (dG0 0 wp__law_pick (dCons (dVar 1) dNil)) (dCons (dG0 0 wpDraw (dCons (dC (.int 4)) dNil)) dNil)))) (dSeq (dSetO 5 (dLst dNil))
  (dFor (dItS (dDGet (dVar 3) (dVar 4))) (gN 6) (dSeq (dSet 7 (dG0 0 wpDraw (dCons (dIf (dTest (dOp (inD false) (dVar 4) (dTup (dCons (dC (.str "figure")) (dCons (dC (.str "first")) (dCons (dC (.str "last")) dNil)))))) (dC (.int 9)) (dOp addD (dVar 2) (dC (.int 1)))) dNil)))
  (dApp 5 (dIf (dTest (dOp eqD (dVar 6) (dC (.str "k")))) (dVar 7) (dG0 0 wp__law_pick (dCons (dVar 1) dNil)))))))))
  (dFrz 5 (dRet (dTup (dCons (dC (.str "put")) (dCons (dG0 0 wp__law_pick (dCons (dVar 1) dNil)) (dCons (dVar 4) (dCons (dCB tupleD (dCons (dVar 5) dNil)) dNil))))))))))
@[irreducible] noncomputable def wp__law_put : DW := wpOfG 2 7 t__law_put
noncomputable def t__law_ask (wp : DW) : DS :=
  (dSeq (dIfS (dAnd (dTest (dOp gtD (dVar 2) (dC (.int 0)))) (dTest (dOp eqD (dG0 0 wpDraw (dCons (dC (.int 3)) dNil)) (dC (.int 0))))) (dRet (dTup (dCons (dC (.str "not")) (dCons (dG0 0 wp (dCons (dVar 1) (dCons (dOp subD (dVar 2) (dC (.int 1))) dNil))) dNil)))) dNext)
  (dSeq (dSet 3 (dG0 0 wp__law_pick (dCons (dL (dLst (dCons (dC (.str "same")) (dCons (dC (.str "less")) (dCons (dC (.str "divides")) (dCons (dC (.str "mirrored")) (dCons (dC (.str "unlike")) dNil))))))) dNil)))
  (dSeq (dSet 4 (dL (dLc (dRg1 (dCons (dOp addD (dC (.int 1)) (dCB int1D (dCons (dOp (inD false) (dVar 3) (dTup (dCons (dC (.str "same")) (dCons (dC (.str "less")) (dCons (dC (.str "divides")) dNil))))) dNil))) dNil)) (gN 5) dYes (dG0 0 wp__law_pick (dCons (dVar 1) dNil)) [5])))
  (dRet (dTup (dCons (dC (.str "ask")) (dCons (dVar 3) (dCons (dCB tupleD (dCons (dVar 4) dNil)) dNil))))))))
@[irreducible] noncomputable def wp__law_ask (n : Nat) : DW := Nat.rec (motive := fun _ => DW) (wpOfG 2 3 dNever) (fun _ r => wpOfG 2 3 (t__law_ask r)) n
theorem wpz__law_ask : wp__law_ask 0 = wpOfG 2 3 dNever := by unfold wp__law_ask; rfl
theorem wps__law_ask (n : Nat) : wp__law_ask (n + 1) = wpOfG 2 3 (t__law_ask (wp__law_ask n)) := by unfold wp__law_ask; rfl
noncomputable def t__law_rows (wp : DW) : DS :=
  (dSeq (dParOV 5 6 (dLst dNil) (dVar 2))
  (dSeq (dWhile (dAnd (dTest (dOp gtD (dVar 6) (dC (.int 0)))) (dTest (dOp gtD (dG0 0 wpDraw (dCons (dC (.int 8)) dNil)) (dC (.int 0))))) (dSeq (dSet 7 (dG0 0 wpDraw (dCons (dC (.int 8)) dNil)))
  (dSeq (dSet 8 (dG0 0 wp__law_put (dCons (dVar 1) (dCons (dVar 4) dNil))))
  (dSeq (dIfS (dAnd (dTest (dOp eqD (dVar 7) (dC (.int 0)))) (dTest (dOp ltD (dVar 6) (dC (.int 4))))) (dSet 8 (dTup (dCons (dC (.str "stop")) dNil))) (dIfS (dAnd (dTest (dOp ltD (dVar 7) (dC (.int 3)))) (dTest (dOp gtD (dVar 3) (dC (.int 0))))) (dSeq (dSet 9 (dCB tupleD (dCons (dG0 0 wp (dCons (dVar 1) (dCons (dOp subD (dVar 6) (dC (.int 1))) (dCons (dOp subD (dVar 3) (dC (.int 1))) (dCons (dVar 4) dNil))))) dNil)))
  (dSeq (dSet 10 (dOp subD (dOp subD (dVar 6) (dC (.int 1))) (dCB sumD (dCons (dL (dLc (dItT (dVar 9)) (gN 12) dYes (dF0 (wp__law_count 9) (dCons (dVar 12) dNil)) [12])) dNil))))
  (dSeq (dSet 8 (dTup (dCons (dC (.str "times")) (dCons (dG0 0 wpDraw (dCons (dC (.int 4)) dNil)) (dCons (dVar 9) dNil)))))
  (dIfS (dTest (dOp ltD (dVar 7) (dC (.int 2)))) (dSeq (dSet 11 (dG0 0 (wp__law_ask 9) (dCons (dVar 1) (dCons (dC (.int 2)) dNil))))
  (dSet 8 (dTup (dCons (dC (.str "if")) (dCons (dVar 11) (dCons (dVar 9) (dCons (dCB tupleD (dCons (dG0 0 wp (dCons (dVar 1) (dCons (dVar 10) (dCons (dOp subD (dVar 3) (dC (.int 1))) (dCons (dVar 4) dNil))))) dNil)) dNil))))))) dNext)))) dNext))
  (dSeq (dApp 5 (dVar 8))
  (dSet 6 (dOp subD (dVar 6) (dF0 (wp__law_count 9) (dCons (dVar 8) dNil)))))))))
  (dFrz 5 (dRet (dVar 5)))))
@[irreducible] noncomputable def wp__law_rows (n : Nat) : DW := Nat.rec (motive := fun _ => DW) (wpOfG 4 8 dNever) (fun _ r => wpOfG 4 8 (t__law_rows r)) n
theorem wpz__law_rows : wp__law_rows 0 = wpOfG 4 8 dNever := by unfold wp__law_rows; rfl
theorem wps__law_rows (n : Nat) : wp__law_rows (n + 1) = wpOfG 4 8 (t__law_rows (wp__law_rows n)) := by unfold wp__law_rows; rfl
noncomputable def t__law_words : DS :=
  (dSeq (dSet 2 (dC (.str "abcdefghijklmnopqrstuvwxyz")))
  (dSeq (dSet 3 (dL (dLst (dCons (dC (.str "if")) (dCons (dC (.str "end")) (dCons (dC (.str "else")) (dCons (dC (.str "not")) (dCons (dC (.str "base")) (dCons (dC (.str "sum")) (dCons (dC (.str "last")) (dCons (dC (.str "many")) (dCons (dC (.str "root")) (dCons (dC (.str "let")) (dCons (dC (.str "same")) (dCons (dC (.str "stop")) dNil)))))))))))))))
  (dSeq (dSetO 4 (dLst dNil))
  (dSeq (dFor (dRg1 (dCons (dVar 1) dNil)) (gN 5) (dSeq (dSet 6 (dJoin (dC (.str "")) (dL (dLc (dRg1 (dCons (dOp addD (dC (.int 1)) (dG0 0 wpDraw (dCons (dC (.int 4)) dNil))) dNil)) (gN 7) dYes (dG0 0 wp__law_pick (dCons (dVar 2) dNil)) [7]))))
  (dSeq (dIfS (dTest (dOp eqD (dG0 0 wpDraw (dCons (dC (.int 3)) dNil)) (dC (.int 0)))) (dSet 6 (dG0 0 wp__law_pick (dCons (dVar 3) dNil))) dNext)
  (dApp 4 (dPeekE 4 (dOp ixD (dL (dLc (dItL (dL (dLst (dCons (dVar 6) (dCons (dC (.str "a")) (dCons (dC (.str "b")) (dCons (dC (.str "c")) (dCons (dC (.str "d")) dNil)))))))) (gN 8) (dTest (dOp (inD true) (dVar 8) (dVar 4))) (dVar 8) [8])) (dC (.int 0))))))))
  (dFrz 4 (dRet (dVar 4)))))))
@[irreducible] noncomputable def wp__law_words : DW := wpOfG 1 7 t__law_words
noncomputable def t_law : DS :=
  (dSeq (dSet 2 (dG0 1 wp__law_words (dCons (dOp addD (dC (.int 1)) (dG0 1 wpDraw (dCons (dC (.int 3)) dNil))) dNil)))
  (dSeq (dSet 3 (dG0 1 (wp__law_rows 9) (dCons (dVar 2) (dCons (dC (.int 4)) (dCons (dC (.int 2)) (dCons (dC (.int 99)) dNil))))))
  (dSeq (dSetO 4 (dLc (dItL (dVar 3)) (gN 17) dYes (dF0 (wp__law_row_of 9) (dCons (dVar 17) dNil)) [17]))
  (dSeq (dParNew 5 6 19 wpL_Sheet_init 4 (dMkLo 18 wpL_Program_init 4))
  (dSeq (dApp 4 (dMk 10 wp_Stop_init dNil))
  (dSeq (dPar 7 8 (dCons (dPkV (D.nob 19) 5 19 1 (dM0 19 wp_Sheet_made (dVar 5) dNil)) (dCons (dCB (strOD 18 wp_Program_str) (dCons (dVar 6) dNil)) dNil)))
  (dSeq (dFor (dRg1 (dCons (dG0 1 wpDraw (dCons (dC (.int 13)) dNil)) dNil)) (gN 9) (dSeq (dPar 10 11 (dCons (dG0 1 wpDraw (dCons (dC (.int 4)) dNil)) (dCons (dOp subD (dG0 1 wpDraw (dCons (dOp addD (dCB lenD (dCons (dVar 3) dNil)) (dC (.int 2))) dNil)) (dC (.int 1))) dNil)))
  (dSeq (dSet 12 (dOp ixD (dL (dLst (dCons (dG0 1 wp__law_put (dCons (dVar 2) (dCons (dC (.int 99)) dNil))) (dCons (dTup (dCons (dC (.str "stop")) dNil)) (dCons (dTup (dCons (dC (.str "times")) (dCons (dC (.int 2)) (dCons (dTup (dCons (dTup (dCons (dC (.str "stop")) dNil)) dNil)) dNil)))) dNil))))) (dG0 1 wpDraw (dCons (dC (.int 3)) dNil))))
  (dSeq (dPar 13 14 (dCons (dF0 (wp__law_row_of 9) (dCons (dVar 12) dNil)) (dCons (dC .non) dNil)))
  (dSeq (dIfS (dTest (dOp eqD (dG0 1 wpDraw (dCons (dC (.int 5)) dNil)) (dC (.int 0)))) (dPar 13 12 (dCons (dOp ixD (dL (dLst (dCons (dC .non) (dCons (dC (.str "stop")) (dCons (dL (dLst (dCons (dMk 10 wp_Stop_init dNil) dNil))) (dCons (dMk 18 wp_Program_init dNil) dNil)))))) (dG0 1 wpDraw (dCons (dC (.int 4)) dNil))) (dCons (dC .non) dNil))) dNext)
  (dSeq (dIfS (dAnd (dTest (dOp ltD (dVar 10) (dC (.int 2)))) (dTest (dOp gtD (dCB sumD (dCons (dL (dLc (dItL (dVar 3)) (gN 17) dYes (dF0 (wp__law_count 9) (dCons (dVar 17) dNil)) [17])) dNil)) (dC (.int 9))))) (dSet 10 (dC (.int 2))) dNext)
  (dSeq (dSet 15 (dChain leD ltD (dC (.int 0)) (dVar 11) (dCB lenD (dCons (dVar 3) dNil))))
  (dSeq (dIfS (dAnd (dTest (dOp gtD (dVar 10) (dC (.int 0)))) (dNot (dTruth (dVar 15)))) (dSet 14 (dTup (dCons (dC (.str "none")) (dCons (dVar 11) dNil)))) (dIfS (dAnd (dTest (dOp ltD (dVar 10) (dC (.int 2)))) (dTest (dOp isND (dVar 12) (dC .non)))) (dSet 14 (dTup (dCons (dC (.str "rows")) (dCons (dC (.str "rows")) dNil)))) (dIfS (dTest (dOp eqD (dVar 10) (dC (.int 0)))) (dSet 3 (dOp addD (dVar 3) (dL (dLst (dCons (dVar 12) dNil))))) (dIfS (dTest (dOp eqD (dVar 10) (dC (.int 1)))) (dSet 3 (dOp addD (dOp addD (dSl (dVar 3) dNoPart (dPart (dVar 11))) (dL (dLst (dCons (dVar 12) dNil)))) (dSl (dVar 3) (dPart (dOp addD (dVar 11) (dC (.int 1)))) dNoPart))) (dIfS (dTest (dOp eqD (dVar 10) (dC (.int 2)))) (dSet 3 (dOp addD (dSl (dVar 3) dNoPart (dPart (dVar 11))) (dSl (dVar 3) (dPart (dOp addD (dVar 11) (dC (.int 1)))) dNoPart))) (dSet 14 (dTup (dCons (dC (.str "told")) (dCons (dJoin (dC (.str "
")) (dF0 (wp__law_lines 20) (dCons (dOp ixD (dVar 3) (dVar 11)) dNil))) dNil)))))))))
  (dSeq (dIfMC neD (dMM0 5 19 wp__law_deed (dCons (dVar 10) (dCons (dVar 11) (dCons (dVar 13) dNil)))) (dVar 14) (dRet (dC (.bl false))) dNext)
  (dIfS (dPkTV 5 19 1 (dNot (dTruth (dF0 wp__law_alike (dCons (dVar 5) (dCons (dVar 3) dNil)))))) (dRet (dC (.bl false))) dNext))))))))))
  (dSeq (dFor (dItT (dTup (dCons (dC .non) (dCons (dC (.int 3)) (dCons (dC (.str "stop")) (dCons (dL (dLst (dCons (dMk 10 wp_Stop_init dNil) (dCons (dC (.int 3)) dNil)))) (dCons (dTup (dCons (dC .non) dNil)) (dCons (dVar 7) (dCons (dMk 10 wp_Stop_init dNil) dNil))))))))) (gN 16) (dIfS (dTest (dOp neD (dF0 wp__law_begun (dCons (dVar 16) dNil)) (dC (.str "rows")))) (dRet (dC (.bl false))) dNext))
  (dRet (dAndT (dOp eqD (dCB (strOD 18 wp_Program_str) (dCons (dVar 7) dNil)) (dVar 8)) (dOp eqD (dCB (lenOD 19 wp_Sheet_len) (dCons (dMk 19 wp_Sheet_init dNil) dNil)) (dC (.int 0)))))))))))))
def w_law : Prop := t_law [.un, .dl, .un, .un, .un, .un, .un, .un, .un, .un, .un, .un, .un, .un, .un, .un, .un, .un] (endsF (fun d => d = .bl true) (fun _ => False))
end K15

namespace K15
open PySem PySem.Spec PyProof.Rows L2 Eb
theorem sc_is_integer : FnScope ["value"] ["value"] (defScope s_is_integer) := ⟨rfl, rfl, rfl, by decide +kernel, rfl, by decide +kernel, by decide +kernel⟩
theorem sc_is_number : FnScope ["value"] ["value"] (defScope s_is_number) := ⟨rfl, rfl, rfl, by decide +kernel, rfl, by decide +kernel, by decide +kernel⟩
theorem sc_is_name : FnScope ["value", "sign"] ["value"] (defScope s_is_name) := ⟨rfl, rfl, rfl, by decide +kernel, rfl, by decide +kernel, by decide +kernel⟩
theorem sc_are_given : FnScope ["deed", "given", "kinds", "kind", "arg"] ["deed", "given"] (defScope s_are_given) := ⟨rfl, rfl, rfl, by decide +kernel, rfl, by decide +kernel, by decide +kernel⟩
theorem sc_is_deed : FnScope ["value"] ["value"] (defScope s_is_deed) := ⟨rfl, rfl, rfl, by decide +kernel, rfl, by decide +kernel, by decide +kernel⟩
theorem sc_rows_of : FnScope ["value", "row"] ["value"] (defScope s_rows_of) := ⟨rfl, rfl, rfl, by decide +kernel, rfl, by decide +kernel, by decide +kernel⟩
theorem sc_flat_rows : FnScope ["rows", "found", "row"] ["rows"] (defScope s_flat_rows) := ⟨rfl, rfl, rfl, by decide +kernel, rfl, by decide +kernel, by decide +kernel⟩
theorem sc_lines_of : FnScope ["rows", "found", "row"] ["rows"] (defScope s_lines_of) := ⟨rfl, rfl, rfl, by decide +kernel, rfl, by decide +kernel, by decide +kernel⟩
theorem sc_Row_init : FnScope ["self", "lines", "inner", "used"] ["self", "lines", "inner", "used"] (defScope s_Row_init) := ⟨rfl, rfl, rfl, by decide +kernel, rfl, by decide +kernel, by decide +kernel⟩
theorem sc_Row_eq : FnScope ["self", "other"] ["self", "other"] (defScope s_Row_eq) := ⟨rfl, rfl, rfl, by decide +kernel, rfl, by decide +kernel, by decide +kernel⟩
theorem sc_Row_str : FnScope ["self"] ["self"] (defScope s_Row_str) := ⟨rfl, rfl, rfl, by decide +kernel, rfl, by decide +kernel, by decide +kernel⟩
theorem sc_put_line : FnScope ["name", "deed", "given", "words", "told", "arg"] ["name", "deed", "given"] (defScope s_put_line) := ⟨rfl, rfl, rfl, by decide +kernel, rfl, by decide +kernel, by decide +kernel⟩
theorem sc_Put_init : SO.ScopeS ["self", "name", "deed", "given", "arg"] ["self", "name", "deed", "given"] (defScope s_Put_init) := ⟨rfl, rfl, rfl, by decide +kernel, rfl, by decide +kernel, by decide +kernel, by decide +kernel, rfl, rfl⟩
theorem sc_Stop_init : SO.ScopeS ["self"] ["self"] (defScope s_Stop_init) := ⟨rfl, rfl, rfl, by decide +kernel, rfl, by decide +kernel, by decide +kernel, by decide +kernel, rfl, rfl⟩
theorem sc_If_init : SO.ScopeS ["self", "test", "rows", "others", "last", "lines"] ["self", "test", "rows", "others"] (defScope s_If_init) := ⟨rfl, rfl, rfl, by decide +kernel, rfl, by decide +kernel, by decide +kernel, by decide +kernel, rfl, rfl⟩
theorem sc_Times_init : SO.ScopeS ["self", "count", "rows"] ["self", "count", "rows"] (defScope s_Times_init) := ⟨rfl, rfl, rfl, by decide +kernel, rfl, by decide +kernel, by decide +kernel, by decide +kernel, rfl, rfl⟩
theorem sc_Test_init : FnScope ["self", "text", "used"] ["self", "text", "used"] (defScope s_Test_init) := ⟨rfl, rfl, rfl, by decide +kernel, rfl, by decide +kernel, by decide +kernel⟩
theorem sc_Test_str : FnScope ["self"] ["self"] (defScope s_Test_str) := ⟨rfl, rfl, rfl, by decide +kernel, rfl, by decide +kernel, by decide +kernel⟩
theorem sc_Ask_init : SO.ScopeS ["self", "word", "names", "name"] ["self", "word", "names"] (defScope s_Ask_init) := ⟨rfl, rfl, rfl, by decide +kernel, rfl, by decide +kernel, by decide +kernel, by decide +kernel, rfl, rfl⟩
theorem sc_Not_init : SO.ScopeS ["self", "test"] ["self", "test"] (defScope s_Not_init) := ⟨rfl, rfl, rfl, by decide +kernel, rfl, by decide +kernel, by decide +kernel, by decide +kernel, rfl, rfl⟩
theorem sc_Program_init : FnScope ["self", "rows", "row", "name"] ["self", "rows"] (defScope s_Program_init) := ⟨rfl, rfl, rfl, by decide +kernel, rfl, by decide +kernel, by decide +kernel⟩
theorem sc_Program_str : FnScope ["self"] ["self"] (defScope s_Program_str) := ⟨rfl, rfl, rfl, by decide +kernel, rfl, by decide +kernel, by decide +kernel⟩
theorem sc_Sheet_init : FnScope ["self", "rows"] ["self", "rows"] (defScope s_Sheet_init) := ⟨rfl, rfl, rfl, by decide +kernel, rfl, by decide +kernel, by decide +kernel⟩
theorem sc_Sheet_need_place : FnScope ["self", "at"] ["self", "at"] (defScope s_Sheet_need_place) := ⟨rfl, rfl, rfl, by decide +kernel, rfl, by decide +kernel, by decide +kernel⟩
theorem sc_Sheet_drop : FnScope ["self", "at"] ["self", "at"] (defScope s_Sheet_drop) := ⟨rfl, rfl, rfl, by decide +kernel, rfl, by decide +kernel, by decide +kernel⟩
theorem sc_Sheet_made : FnScope ["self"] ["self"] (defScope s_Sheet_made) := ⟨rfl, rfl, rfl, by decide +kernel, rfl, by decide +kernel, by decide +kernel⟩
theorem sc_Sheet_getitem : FnScope ["self", "at"] ["self", "at"] (defScope s_Sheet_getitem) := ⟨rfl, rfl, rfl, by decide +kernel, rfl, by decide +kernel, by decide +kernel⟩
theorem sc_Sheet_setitem : FnScope ["self", "at", "row"] ["self", "at", "row"] (defScope s_Sheet_setitem) := ⟨rfl, rfl, rfl, by decide +kernel, rfl, by decide +kernel, by decide +kernel⟩
theorem sc_Sheet_iadd : FnScope ["self", "row"] ["self", "row"] (defScope s_Sheet_iadd) := ⟨rfl, rfl, rfl, by decide +kernel, rfl, by decide +kernel, by decide +kernel⟩
theorem sc_Sheet_len : FnScope ["self"] ["self"] (defScope s_Sheet_len) := ⟨rfl, rfl, rfl, by decide +kernel, rfl, by decide +kernel, by decide +kernel⟩
theorem sc_need_one : FnScope ["row"] ["row"] (defScope s_need_one) := ⟨rfl, rfl, rfl, by decide +kernel, rfl, by decide +kernel, by decide +kernel⟩
theorem sc__law_deal : FnScope ["_law_script", "_law_radix", "_law_cell", "_law_cells", "_law_seed"] ["_law_script", "_law_radix"] (defScope s__law_deal) := ⟨rfl, rfl, rfl, by decide +kernel, rfl, by decide +kernel, by decide +kernel⟩
theorem sc__law_draw : FnScope ["_law_deal_here", "_law_amount", "_law_digit"] ["_law_deal_here", "_law_amount"] (defScope s__law_draw) := ⟨rfl, rfl, rfl, by decide +kernel, rfl, by decide +kernel, by decide +kernel⟩
theorem sc__law_pick : FnScope ["_law_deal_here", "_law_some"] ["_law_deal_here", "_law_some"] (defScope s__law_pick) := ⟨rfl, rfl, rfl, by decide +kernel, rfl, by decide +kernel, by decide +kernel⟩
theorem sc__law_words : FnScope ["_law_deal_here", "_law_amount", "_law_letters", "_law_kept", "_law_found", "_law_k", "_law_word", "_law_at", "_law_one"] ["_law_deal_here", "_law_amount"] (defScope s__law_words) := ⟨rfl, rfl, rfl, by decide +kernel, rfl, by decide +kernel, by decide +kernel⟩
theorem sc__law_kinds : FnScope ["_law_found", "_law_deed_here"] [] (defScope s__law_kinds) := ⟨rfl, rfl, rfl, by decide +kernel, rfl, by decide +kernel, by decide +kernel⟩
theorem sc__law_put : FnScope ["_law_deal_here", "_law_names", "_law_most", "_law_kinds_here", "_law_deed_here", "_law_args", "_law_kind", "_law_number", "_law_k", "_law_one"] ["_law_deal_here", "_law_names", "_law_most"] (defScope s__law_put) := ⟨rfl, rfl, rfl, by decide +kernel, rfl, by decide +kernel, by decide +kernel⟩
theorem sc__law_ask : FnScope ["_law_deal_here", "_law_names", "_law_down", "_law_word", "_law_some", "_law_k"] ["_law_deal_here", "_law_names", "_law_down"] (defScope s__law_ask) := ⟨rfl, rfl, rfl, by decide +kernel, rfl, by decide +kernel, by decide +kernel⟩
theorem sc__law_count : FnScope ["_law_row", "_law_one"] ["_law_row"] (defScope s__law_count) := ⟨rfl, rfl, rfl, by decide +kernel, rfl, by decide +kernel, by decide +kernel⟩
theorem sc__law_rows : FnScope ["_law_deal_here", "_law_names", "_law_room", "_law_down", "_law_most", "_law_found", "_law_left", "_law_form", "_law_row", "_law_rows_here", "_law_rest", "_law_test", "_law_one"] ["_law_deal_here", "_law_names", "_law_room", "_law_down", "_law_most"] (defScope s__law_rows) := ⟨rfl, rfl, rfl, by decide +kernel, rfl, by decide +kernel, by decide +kernel⟩
theorem sc__law_ask_text : FnScope ["_law_test"] ["_law_test"] (defScope s__law_ask_text) := ⟨rfl, rfl, rfl, by decide +kernel, rfl, by decide +kernel, by decide +kernel⟩
theorem sc__law_lines : FnScope ["_law_row", "_law_words_here", "_law_inner", "_law_arg"] ["_law_row"] (defScope s__law_lines) := ⟨rfl, rfl, rfl, by decide +kernel, rfl, by decide +kernel, by decide +kernel⟩
theorem sc__law_all_lines : FnScope ["_law_rows_here", "_law_found", "_law_row"] ["_law_rows_here"] (defScope s__law_all_lines) := ⟨rfl, rfl, rfl, by decide +kernel, rfl, by decide +kernel, by decide +kernel⟩
theorem sc__law_ask_of : FnScope ["_law_test"] ["_law_test"] (defScope s__law_ask_of) := ⟨rfl, rfl, rfl, by decide +kernel, rfl, by decide +kernel, by decide +kernel⟩
theorem sc__law_row_of : FnScope ["_law_row", "_law_others", "_law_args", "_law_one"] ["_law_row"] (defScope s__law_row_of) := ⟨rfl, rfl, rfl, by decide +kernel, rfl, by decide +kernel, by decide +kernel⟩
theorem sc__law_deed : FnScope ["_law_sheet", "_law_form", "_law_at", "_law_row", "_law_found", "e"] ["_law_sheet", "_law_form", "_law_at", "_law_row"] (defScope s__law_deed) := ⟨rfl, rfl, rfl, by decide +kernel, rfl, by decide +kernel, by decide +kernel⟩
theorem sc__law_begun : FnScope ["_law_thing", "_law_found", "e"] ["_law_thing"] (defScope s__law_begun) := ⟨rfl, rfl, rfl, by decide +kernel, rfl, by decide +kernel, by decide +kernel⟩
theorem sc__law_alike : FnScope ["_law_sheet", "_law_models", "_law_k", "_law_one"] ["_law_sheet", "_law_models"] (defScope s__law_alike) := ⟨rfl, rfl, rfl, by decide +kernel, rfl, by decide +kernel, by decide +kernel⟩
theorem sc_law : FnScope ["_law_script", "_law_deal_here", "_law_names", "_law_models", "_law_rows_here", "_law_sheet", "_law_one_side", "_law_built", "_law_kept", "_law_turn", "_law_form", "_law_at", "_law_other", "_law_row", "_law_due", "_law_stands", "_law_thing", "_law_one"] ["_law_script"] (defScope s_law) := ⟨rfl, rfl, rfl, by decide +kernel, rfl, by decide +kernel, by decide +kernel⟩
theorem sd_NoRow : PySem.SupX.SupDef "at" (defArgs s_NoRow_init) (defBody s_NoRow_init) (defScope s_NoRow_init).names (defScope s_NoRow_init).more := ⟨⟨_, _, _, _, _, _, _, _, _, _, rfl, rfl⟩, ⟨_, rfl, rfl⟩, fun _ _ _ _ _ _ _ _ _ _ => BindsTo.of_eq rfl, by decide +kernel, rfl, rfl, rfl, rfl, by decide, by decide⟩
theorem sd_InvalidRow : PySem.SupX.SupDef "word" (defArgs s_InvalidRow_init) (defBody s_InvalidRow_init) (defScope s_InvalidRow_init).names (defScope s_InvalidRow_init).more := ⟨⟨_, _, _, _, _, _, _, _, _, _, rfl, rfl⟩, ⟨_, rfl, rfl⟩, fun _ _ _ _ _ _ _ _ _ _ => BindsTo.of_eq rfl, by decide +kernel, rfl, rfl, rfl, rfl, by decide, by decide⟩
structure Txt (P : Program) (w : World) (K : PySem.W.Frag) (mg : Str → Option Value) (F : Nat → Addr) (D : Nat → FuncData) (C : Nat → Addr) : Prop where
  f_is_integer : Fun K "is_integer" "is_integer" s_is_integer (F 1) (D 1)
  b_is_integer : Binds K (D 1) ["value"] []
  g_is_integer : mg "is_integer" = some (.ref (F 1))
  f_is_number : Fun K "is_number" "is_number" s_is_number (F 2) (D 2)
  b_is_number : Binds K (D 2) ["value"] []
  g_is_number : mg "is_number" = some (.ref (F 2))
  f_is_name : Fun K "is_name" "is_name" s_is_name (F 4) (D 4)
  b_is_name : Binds K (D 4) ["value"] []
  g_is_name : mg "is_name" = some (.ref (F 4))
  f_are_given : Fun K "are_given" "are_given" s_are_given (F 24) (D 24)
  b_are_given : Binds K (D 24) ["deed", "given"] []
  g_are_given : mg "are_given" = some (.ref (F 24))
  f_is_deed : Fun K "is_deed" "is_deed" s_is_deed (F 25) (D 25)
  b_is_deed : Binds K (D 25) ["value"] []
  g_is_deed : mg "is_deed" = some (.ref (F 25))
  f_rows_of : Fun K "rows_of" "rows_of" s_rows_of (F 26) (D 26)
  b_rows_of : Binds K (D 26) ["value"] []
  g_rows_of : mg "rows_of" = some (.ref (F 26))
  f_flat_rows : Fun K "flat_rows" "flat_rows" s_flat_rows (F 27) (D 27)
  b_flat_rows : Binds K (D 27) ["rows"] []
  g_flat_rows : mg "flat_rows" = some (.ref (F 27))
  f_lines_of : Fun K "lines_of" "lines_of" s_lines_of (F 28) (D 28)
  b_lines_of : Binds K (D 28) ["rows"] []
  g_lines_of : mg "lines_of" = some (.ref (F 28))
  f_Row_init : Fun K "__init__" "Row.__init__" s_Row_init (F 29) (D 29)
  b_Row_init : Binds K (D 29) ["self", "lines", "inner", "used"] []
  f_Row_eq : Fun K "__eq__" "Row.__eq__" s_Row_eq (F 30) (D 30)
  b_Row_eq : Binds K (D 30) ["self", "other"] []
  f_Row_str : Fun K "__str__" "Row.__str__" s_Row_str (F 31) (D 31)
  b_Row_str : Binds K (D 31) ["self"] []
  f_put_line : Fun K "put_line" "put_line" s_put_line (F 32) (D 32)
  b_put_line : Binds K (D 32) ["name", "deed", "given"] []
  g_put_line : mg "put_line" = some (.ref (F 32))
  sp_Put_init : SupF P K mg "__init__" "Put.__init__" s_Put_init (F 33) (C 9) (F 29) 0
  sp_Stop_init : SupF P K mg "__init__" "Stop.__init__" s_Stop_init (F 34) (C 10) (F 29) 0
  sp_If_init : SupF P K mg "__init__" "If.__init__" s_If_init (F 35) (C 11) (F 29) 1
  sp_Times_init : SupF P K mg "__init__" "Times.__init__" s_Times_init (F 36) (C 12) (F 29) 0
  f_Test_init : Fun K "__init__" "Test.__init__" s_Test_init (F 37) (D 37)
  b_Test_init : Binds K (D 37) ["self", "text", "used"] []
  f_Test_str : Fun K "__str__" "Test.__str__" s_Test_str (F 39) (D 39)
  b_Test_str : Binds K (D 39) ["self"] []
  sp_Ask_init : SupF P K mg "__init__" "Ask.__init__" s_Ask_init (F 40) (C 14) (F 37) 0
  sp_Not_init : SupF P K mg "__init__" "Not.__init__" s_Not_init (F 41) (C 15) (F 37) 0
  fd_Program_init : FunDf K "__init__" "Program.__init__" s_Program_init (F 65)
  f_Program_str : Fun K "__str__" "Program.__str__" s_Program_str (F 66) (D 66)
  b_Program_str : Binds K (D 66) ["self"] []
  fd_Sheet_init : FunDf K "__init__" "Sheet.__init__" s_Sheet_init (F 67)
  f_Sheet_need_place : Fun K "need_place" "Sheet.need_place" s_Sheet_need_place (F 68) (D 68)
  b_Sheet_need_place : Binds K (D 68) ["self", "at"] []
  f_Sheet_drop : Fun K "drop" "Sheet.drop" s_Sheet_drop (F 69) (D 69)
  b_Sheet_drop : Binds K (D 69) ["self", "at"] []
  f_Sheet_made : Fun K "made" "Sheet.made" s_Sheet_made (F 70) (D 70)
  b_Sheet_made : Binds K (D 70) ["self"] []
  f_Sheet_getitem : Fun K "__getitem__" "Sheet.__getitem__" s_Sheet_getitem (F 71) (D 71)
  b_Sheet_getitem : Binds K (D 71) ["self", "at"] []
  f_Sheet_setitem : Fun K "__setitem__" "Sheet.__setitem__" s_Sheet_setitem (F 72) (D 72)
  b_Sheet_setitem : Binds K (D 72) ["self", "at", "row"] []
  f_Sheet_iadd : Fun K "__iadd__" "Sheet.__iadd__" s_Sheet_iadd (F 73) (D 73)
  b_Sheet_iadd : Binds K (D 73) ["self", "row"] []
  f_Sheet_len : Fun K "__len__" "Sheet.__len__" s_Sheet_len (F 74) (D 74)
  b_Sheet_len : Binds K (D 74) ["self"] []
  f_need_one : Fun K "need_one" "need_one" s_need_one (F 75) (D 75)
  b_need_one : Binds K (D 75) ["row"] []
  g_need_one : mg "need_one" = some (.ref (F 75))
  f__law_deal : Fun K "_law_deal" "_law_deal" s__law_deal (F 76) (D 76)
  b__law_deal : Binds K (D 76) ["_law_script", "_law_radix"] []
  g__law_deal : mg "_law_deal" = some (.ref (F 76))
  f__law_draw : Fun K "_law_draw" "_law_draw" s__law_draw (F 77) (D 77)
  b__law_draw : Binds K (D 77) ["_law_deal_here", "_law_amount"] []
  g__law_draw : mg "_law_draw" = some (.ref (F 77))
  f__law_pick : Fun K "_law_pick" "_law_pick" s__law_pick (F 78) (D 78)
  b__law_pick : Binds K (D 78) ["_law_deal_here", "_law_some"] []
  g__law_pick : mg "_law_pick" = some (.ref (F 78))
  f__law_words : Fun K "_law_words" "_law_words" s__law_words (F 79) (D 79)
  b__law_words : Binds K (D 79) ["_law_deal_here", "_law_amount"] []
  g__law_words : mg "_law_words" = some (.ref (F 79))
  f__law_kinds : Fun K "_law_kinds" "_law_kinds" s__law_kinds (F 80) (D 80)
  b__law_kinds : Binds K (D 80) [] []
  g__law_kinds : mg "_law_kinds" = some (.ref (F 80))
  f__law_put : Fun K "_law_put" "_law_put" s__law_put (F 81) (D 81)
  b__law_put : Binds K (D 81) ["_law_deal_here", "_law_names", "_law_most"] []
  g__law_put : mg "_law_put" = some (.ref (F 81))
  f__law_ask : Fun K "_law_ask" "_law_ask" s__law_ask (F 82) (D 82)
  b__law_ask : Binds K (D 82) ["_law_deal_here", "_law_names", "_law_down"] []
  g__law_ask : mg "_law_ask" = some (.ref (F 82))
  f__law_count : Fun K "_law_count" "_law_count" s__law_count (F 83) (D 83)
  b__law_count : Binds K (D 83) ["_law_row"] []
  g__law_count : mg "_law_count" = some (.ref (F 83))
  f__law_rows : Fun K "_law_rows" "_law_rows" s__law_rows (F 84) (D 84)
  b__law_rows : Binds K (D 84) ["_law_deal_here", "_law_names", "_law_room", "_law_down", "_law_most"] []
  g__law_rows : mg "_law_rows" = some (.ref (F 84))
  f__law_ask_text : Fun K "_law_ask_text" "_law_ask_text" s__law_ask_text (F 85) (D 85)
  b__law_ask_text : Binds K (D 85) ["_law_test"] []
  g__law_ask_text : mg "_law_ask_text" = some (.ref (F 85))
  f__law_lines : Fun K "_law_lines" "_law_lines" s__law_lines (F 86) (D 86)
  b__law_lines : Binds K (D 86) ["_law_row"] []
  g__law_lines : mg "_law_lines" = some (.ref (F 86))
  f__law_all_lines : Fun K "_law_all_lines" "_law_all_lines" s__law_all_lines (F 87) (D 87)
  b__law_all_lines : Binds K (D 87) ["_law_rows_here"] []
  g__law_all_lines : mg "_law_all_lines" = some (.ref (F 87))
  f__law_ask_of : Fun K "_law_ask_of" "_law_ask_of" s__law_ask_of (F 88) (D 88)
  b__law_ask_of : Binds K (D 88) ["_law_test"] []
  g__law_ask_of : mg "_law_ask_of" = some (.ref (F 88))
  f__law_row_of : Fun K "_law_row_of" "_law_row_of" s__law_row_of (F 89) (D 89)
  b__law_row_of : Binds K (D 89) ["_law_row"] []
  g__law_row_of : mg "_law_row_of" = some (.ref (F 89))
  f__law_deed : Fun K "_law_deed" "_law_deed" s__law_deed (F 90) (D 90)
  b__law_deed : Binds K (D 90) ["_law_sheet", "_law_form", "_law_at", "_law_row"] []
  g__law_deed : mg "_law_deed" = some (.ref (F 90))
  f__law_begun : Fun K "_law_begun" "_law_begun" s__law_begun (F 91) (D 91)
  b__law_begun : Binds K (D 91) ["_law_thing"] []
  g__law_begun : mg "_law_begun" = some (.ref (F 91))
  f__law_alike : Fun K "_law_alike" "_law_alike" s__law_alike (F 92) (D 92)
  b__law_alike : Binds K (D 92) ["_law_sheet", "_law_models"] []
  g__law_alike : mg "_law_alike" = some (.ref (F 92))
  f_law : Fun K "law" "law" s_law (F 93) (D 93)
  n_isinstance : mg "isinstance" = none
  n_int : mg "int" = none
  n_bool : mg "bool" = none
  n_str : mg "str" = none
  n_len : mg "len" = none
  n_all : mg "all" = none
  n_range : mg "range" = none
  n_tuple : mg "tuple" = none
  n_list : mg "list" = none
  n_enumerate : mg "enumerate" = none
  n_sorted : mg "sorted" = none
  n_sum : mg "sum" = none
  n_zip : mg "zip" = none
  n_abs : mg "abs" = none
  v_NAME_SIGNS : ∃ u, mg "NAME_SIGNS" = some u ∧ RelV (.str "abcdefghijklmnopqrstuvwxyz") u
  v_MOST_SIGNS : ∃ u, mg "MOST_SIGNS" = some u ∧ RelV (.int 4) u
  gd_SIGNS : GDic K w mg "SIGNS" kv_SIGNS
  gd_PLAIN : GDic K w mg "PLAIN" kv_PLAIN
  gd_ASKED : GDic K w mg "ASKED" kv_ASKED
  gc_Row : mg "Row" = some (.ref (C 8))
  kn_Row_NoneType : PySem.W.kitOne K (.type "NoneType") (.ref (C 8)) = some false
  kn_Row_int : PySem.W.kitOne K (.type "int") (.ref (C 8)) = some false
  kn_Row_bool : PySem.W.kitOne K (.type "bool") (.ref (C 8)) = some false
  kn_Row_str : PySem.W.kitOne K (.type "str") (.ref (C 8)) = some false
  kn_Row_list : PySem.W.kitOne K (.type "list") (.ref (C 8)) = some false
  kn_Row_tuple : PySem.W.kitOne K (.type "tuple") (.ref (C 8)) = some false
  gc_Put : mg "Put" = some (.ref (C 9))
  cl_Put : Cls K (C 9)
  mk_Put : Mk K (C 9) (F 33)
  mi_Put_eq : Meth K (C 9) "__eq__" (F 30)
  mi_Put_str : Meth K (C 9) "__str__" (F 31)
  nfo_Put_Put : PySem.W.notFirst K (C 9) (.ref (C 9)) = true
  nfo_Put_Stop : PySem.W.notFirst K (C 9) (.ref (C 10)) = true
  nfo_Put_If : PySem.W.notFirst K (C 9) (.ref (C 11)) = true
  nfo_Put_Times : PySem.W.notFirst K (C 9) (.ref (C 12)) = true
  nfo_Put_Ask : PySem.W.notFirst K (C 9) (.ref (C 14)) = true
  nfo_Put_Not : PySem.W.notFirst K (C 9) (.ref (C 15)) = true
  nft_Put_NoneType : PySem.W.notFirst K (C 9) (.type "NoneType") = true
  nft_Put_bool : PySem.W.notFirst K (C 9) (.type "bool") = true
  nft_Put_int : PySem.W.notFirst K (C 9) (.type "int") = true
  nft_Put_str : PySem.W.notFirst K (C 9) (.type "str") = true
  nft_Put_list : PySem.W.notFirst K (C 9) (.type "list") = true
  nft_Put_tuple : PySem.W.notFirst K (C 9) (.type "tuple") = true
  fm_Put : PySem.W.findIn K (.ref (C 9)) "__format__" = some (some (.builtin "object.__format__"))
  ta_Put : PySem.W.findIn K (.ref (C 9)) "__class__" = some (some (.builtin "object.__class__"))
  tb_Put : PySem.W.specialIn K (.builtin "object.__class__") "__get__" = some (some (.builtin "getset_descriptor.__get__"))
  tc_Put : PySem.W.takesIn K (.builtin "object.__class__") = some true
  td_Put : PySem.W.mroIn K (C 9) (.type "object") = some true
  kt_Put_int : PySem.W.kitOne K (.ref (C 9)) (.type "int") = some false
  kt_Put_bool : PySem.W.kitOne K (.ref (C 9)) (.type "bool") = some false
  kt_Put_str : PySem.W.kitOne K (.ref (C 9)) (.type "str") = some false
  kt_Put_list : PySem.W.kitOne K (.ref (C 9)) (.type "list") = some false
  kt_Put_tuple : PySem.W.kitOne K (.ref (C 9)) (.type "tuple") = some false
  ko_Put_Row : PySem.W.kitOne K (.ref (C 9)) (.ref (C 8)) = some true
  ko_Put_Test : PySem.W.kitOne K (.ref (C 9)) (.ref (C 13)) = some false
  na_Put_lines : NoAttr K (C 9) "lines"
  na_Put_inner : NoAttr K (C 9) "inner"
  na_Put_used : NoAttr K (C 9) "used"
  na_Put_name : NoAttr K (C 9) "name"
  na_Put_deed : NoAttr K (C 9) "deed"
  na_Put_given : NoAttr K (C 9) "given"
  gc_Stop : mg "Stop" = some (.ref (C 10))
  cl_Stop : Cls K (C 10)
  mk_Stop : Mk K (C 10) (F 34)
  mi_Stop_eq : Meth K (C 10) "__eq__" (F 30)
  mi_Stop_str : Meth K (C 10) "__str__" (F 31)
  nfo_Stop_Put : PySem.W.notFirst K (C 10) (.ref (C 9)) = true
  nfo_Stop_Stop : PySem.W.notFirst K (C 10) (.ref (C 10)) = true
  nfo_Stop_If : PySem.W.notFirst K (C 10) (.ref (C 11)) = true
  nfo_Stop_Times : PySem.W.notFirst K (C 10) (.ref (C 12)) = true
  nfo_Stop_Ask : PySem.W.notFirst K (C 10) (.ref (C 14)) = true
  nfo_Stop_Not : PySem.W.notFirst K (C 10) (.ref (C 15)) = true
  nft_Stop_NoneType : PySem.W.notFirst K (C 10) (.type "NoneType") = true
  nft_Stop_bool : PySem.W.notFirst K (C 10) (.type "bool") = true
  nft_Stop_int : PySem.W.notFirst K (C 10) (.type "int") = true
  nft_Stop_str : PySem.W.notFirst K (C 10) (.type "str") = true
  nft_Stop_list : PySem.W.notFirst K (C 10) (.type "list") = true
  nft_Stop_tuple : PySem.W.notFirst K (C 10) (.type "tuple") = true
  fm_Stop : PySem.W.findIn K (.ref (C 10)) "__format__" = some (some (.builtin "object.__format__"))
  ta_Stop : PySem.W.findIn K (.ref (C 10)) "__class__" = some (some (.builtin "object.__class__"))
  tb_Stop : PySem.W.specialIn K (.builtin "object.__class__") "__get__" = some (some (.builtin "getset_descriptor.__get__"))
  tc_Stop : PySem.W.takesIn K (.builtin "object.__class__") = some true
  td_Stop : PySem.W.mroIn K (C 10) (.type "object") = some true
  kt_Stop_int : PySem.W.kitOne K (.ref (C 10)) (.type "int") = some false
  kt_Stop_bool : PySem.W.kitOne K (.ref (C 10)) (.type "bool") = some false
  kt_Stop_str : PySem.W.kitOne K (.ref (C 10)) (.type "str") = some false
  kt_Stop_list : PySem.W.kitOne K (.ref (C 10)) (.type "list") = some false
  kt_Stop_tuple : PySem.W.kitOne K (.ref (C 10)) (.type "tuple") = some false
  ko_Stop_Row : PySem.W.kitOne K (.ref (C 10)) (.ref (C 8)) = some true
  ko_Stop_Test : PySem.W.kitOne K (.ref (C 10)) (.ref (C 13)) = some false
  na_Stop_lines : NoAttr K (C 10) "lines"
  na_Stop_inner : NoAttr K (C 10) "inner"
  na_Stop_used : NoAttr K (C 10) "used"
  gc_If : mg "If" = some (.ref (C 11))
  cl_If : Cls K (C 11)
  mk_If : Mk K (C 11) (F 35)
  mi_If_eq : Meth K (C 11) "__eq__" (F 30)
  mi_If_str : Meth K (C 11) "__str__" (F 31)
  nfo_If_Put : PySem.W.notFirst K (C 11) (.ref (C 9)) = true
  nfo_If_Stop : PySem.W.notFirst K (C 11) (.ref (C 10)) = true
  nfo_If_If : PySem.W.notFirst K (C 11) (.ref (C 11)) = true
  nfo_If_Times : PySem.W.notFirst K (C 11) (.ref (C 12)) = true
  nfo_If_Ask : PySem.W.notFirst K (C 11) (.ref (C 14)) = true
  nfo_If_Not : PySem.W.notFirst K (C 11) (.ref (C 15)) = true
  nft_If_NoneType : PySem.W.notFirst K (C 11) (.type "NoneType") = true
  nft_If_bool : PySem.W.notFirst K (C 11) (.type "bool") = true
  nft_If_int : PySem.W.notFirst K (C 11) (.type "int") = true
  nft_If_str : PySem.W.notFirst K (C 11) (.type "str") = true
  nft_If_list : PySem.W.notFirst K (C 11) (.type "list") = true
  nft_If_tuple : PySem.W.notFirst K (C 11) (.type "tuple") = true
  fm_If : PySem.W.findIn K (.ref (C 11)) "__format__" = some (some (.builtin "object.__format__"))
  ta_If : PySem.W.findIn K (.ref (C 11)) "__class__" = some (some (.builtin "object.__class__"))
  tb_If : PySem.W.specialIn K (.builtin "object.__class__") "__get__" = some (some (.builtin "getset_descriptor.__get__"))
  tc_If : PySem.W.takesIn K (.builtin "object.__class__") = some true
  td_If : PySem.W.mroIn K (C 11) (.type "object") = some true
  kt_If_int : PySem.W.kitOne K (.ref (C 11)) (.type "int") = some false
  kt_If_bool : PySem.W.kitOne K (.ref (C 11)) (.type "bool") = some false
  kt_If_str : PySem.W.kitOne K (.ref (C 11)) (.type "str") = some false
  kt_If_list : PySem.W.kitOne K (.ref (C 11)) (.type "list") = some false
  kt_If_tuple : PySem.W.kitOne K (.ref (C 11)) (.type "tuple") = some false
  ko_If_Row : PySem.W.kitOne K (.ref (C 11)) (.ref (C 8)) = some true
  ko_If_Test : PySem.W.kitOne K (.ref (C 11)) (.ref (C 13)) = some false
  na_If_test : NoAttr K (C 11) "test"
  na_If_rows : NoAttr K (C 11) "rows"
  na_If_others : NoAttr K (C 11) "others"
  na_If_lines : NoAttr K (C 11) "lines"
  na_If_inner : NoAttr K (C 11) "inner"
  na_If_used : NoAttr K (C 11) "used"
  gc_Times : mg "Times" = some (.ref (C 12))
  cl_Times : Cls K (C 12)
  mk_Times : Mk K (C 12) (F 36)
  mi_Times_eq : Meth K (C 12) "__eq__" (F 30)
  mi_Times_str : Meth K (C 12) "__str__" (F 31)
  nfo_Times_Put : PySem.W.notFirst K (C 12) (.ref (C 9)) = true
  nfo_Times_Stop : PySem.W.notFirst K (C 12) (.ref (C 10)) = true
  nfo_Times_If : PySem.W.notFirst K (C 12) (.ref (C 11)) = true
  nfo_Times_Times : PySem.W.notFirst K (C 12) (.ref (C 12)) = true
  nfo_Times_Ask : PySem.W.notFirst K (C 12) (.ref (C 14)) = true
  nfo_Times_Not : PySem.W.notFirst K (C 12) (.ref (C 15)) = true
  nft_Times_NoneType : PySem.W.notFirst K (C 12) (.type "NoneType") = true
  nft_Times_bool : PySem.W.notFirst K (C 12) (.type "bool") = true
  nft_Times_int : PySem.W.notFirst K (C 12) (.type "int") = true
  nft_Times_str : PySem.W.notFirst K (C 12) (.type "str") = true
  nft_Times_list : PySem.W.notFirst K (C 12) (.type "list") = true
  nft_Times_tuple : PySem.W.notFirst K (C 12) (.type "tuple") = true
  fm_Times : PySem.W.findIn K (.ref (C 12)) "__format__" = some (some (.builtin "object.__format__"))
  ta_Times : PySem.W.findIn K (.ref (C 12)) "__class__" = some (some (.builtin "object.__class__"))
  tb_Times : PySem.W.specialIn K (.builtin "object.__class__") "__get__" = some (some (.builtin "getset_descriptor.__get__"))
  tc_Times : PySem.W.takesIn K (.builtin "object.__class__") = some true
  td_Times : PySem.W.mroIn K (C 12) (.type "object") = some true
  kt_Times_int : PySem.W.kitOne K (.ref (C 12)) (.type "int") = some false
  kt_Times_bool : PySem.W.kitOne K (.ref (C 12)) (.type "bool") = some false
  kt_Times_str : PySem.W.kitOne K (.ref (C 12)) (.type "str") = some false
  kt_Times_list : PySem.W.kitOne K (.ref (C 12)) (.type "list") = some false
  kt_Times_tuple : PySem.W.kitOne K (.ref (C 12)) (.type "tuple") = some false
  ko_Times_Row : PySem.W.kitOne K (.ref (C 12)) (.ref (C 8)) = some true
  ko_Times_Test : PySem.W.kitOne K (.ref (C 12)) (.ref (C 13)) = some false
  na_Times_count : NoAttr K (C 12) "count"
  na_Times_rows : NoAttr K (C 12) "rows"
  na_Times_lines : NoAttr K (C 12) "lines"
  na_Times_inner : NoAttr K (C 12) "inner"
  na_Times_used : NoAttr K (C 12) "used"
  gc_Test : mg "Test" = some (.ref (C 13))
  kn_Test_NoneType : PySem.W.kitOne K (.type "NoneType") (.ref (C 13)) = some false
  kn_Test_int : PySem.W.kitOne K (.type "int") (.ref (C 13)) = some false
  kn_Test_bool : PySem.W.kitOne K (.type "bool") (.ref (C 13)) = some false
  kn_Test_str : PySem.W.kitOne K (.type "str") (.ref (C 13)) = some false
  kn_Test_list : PySem.W.kitOne K (.type "list") (.ref (C 13)) = some false
  kn_Test_tuple : PySem.W.kitOne K (.type "tuple") (.ref (C 13)) = some false
  gc_Ask : mg "Ask" = some (.ref (C 14))
  cl_Ask : Cls K (C 14)
  mk_Ask : Mk K (C 14) (F 40)
  mi_Ask_str : Meth K (C 14) "__str__" (F 39)
  fm_Ask : PySem.W.findIn K (.ref (C 14)) "__format__" = some (some (.builtin "object.__format__"))
  ta_Ask : PySem.W.findIn K (.ref (C 14)) "__class__" = some (some (.builtin "object.__class__"))
  tb_Ask : PySem.W.specialIn K (.builtin "object.__class__") "__get__" = some (some (.builtin "getset_descriptor.__get__"))
  tc_Ask : PySem.W.takesIn K (.builtin "object.__class__") = some true
  td_Ask : PySem.W.mroIn K (C 14) (.type "object") = some true
  kt_Ask_int : PySem.W.kitOne K (.ref (C 14)) (.type "int") = some false
  kt_Ask_bool : PySem.W.kitOne K (.ref (C 14)) (.type "bool") = some false
  kt_Ask_str : PySem.W.kitOne K (.ref (C 14)) (.type "str") = some false
  kt_Ask_list : PySem.W.kitOne K (.ref (C 14)) (.type "list") = some false
  kt_Ask_tuple : PySem.W.kitOne K (.ref (C 14)) (.type "tuple") = some false
  ko_Ask_Row : PySem.W.kitOne K (.ref (C 14)) (.ref (C 8)) = some false
  ko_Ask_Test : PySem.W.kitOne K (.ref (C 14)) (.ref (C 13)) = some true
  na_Ask_text : NoAttr K (C 14) "text"
  na_Ask_used : NoAttr K (C 14) "used"
  na_Ask_word : NoAttr K (C 14) "word"
  na_Ask_names : NoAttr K (C 14) "names"
  gc_Not : mg "Not" = some (.ref (C 15))
  cl_Not : Cls K (C 15)
  mk_Not : Mk K (C 15) (F 41)
  mi_Not_str : Meth K (C 15) "__str__" (F 39)
  fm_Not : PySem.W.findIn K (.ref (C 15)) "__format__" = some (some (.builtin "object.__format__"))
  ta_Not : PySem.W.findIn K (.ref (C 15)) "__class__" = some (some (.builtin "object.__class__"))
  tb_Not : PySem.W.specialIn K (.builtin "object.__class__") "__get__" = some (some (.builtin "getset_descriptor.__get__"))
  tc_Not : PySem.W.takesIn K (.builtin "object.__class__") = some true
  td_Not : PySem.W.mroIn K (C 15) (.type "object") = some true
  kt_Not_int : PySem.W.kitOne K (.ref (C 15)) (.type "int") = some false
  kt_Not_bool : PySem.W.kitOne K (.ref (C 15)) (.type "bool") = some false
  kt_Not_str : PySem.W.kitOne K (.ref (C 15)) (.type "str") = some false
  kt_Not_list : PySem.W.kitOne K (.ref (C 15)) (.type "list") = some false
  kt_Not_tuple : PySem.W.kitOne K (.ref (C 15)) (.type "tuple") = some false
  ko_Not_Row : PySem.W.kitOne K (.ref (C 15)) (.ref (C 8)) = some false
  ko_Not_Test : PySem.W.kitOne K (.ref (C 15)) (.ref (C 13)) = some true
  na_Not_text : NoAttr K (C 15) "text"
  na_Not_used : NoAttr K (C 15) "used"
  na_Not_test : NoAttr K (C 15) "test"
  gc_Program : mg "Program" = some (.ref (C 18))
  cl_Program : Cls K (C 18)
  mk_Program : Mk K (C 18) (F 65)
  ta_Program : PySem.W.findIn K (.ref (C 18)) "__class__" = some (some (.builtin "object.__class__"))
  tb_Program : PySem.W.specialIn K (.builtin "object.__class__") "__get__" = some (some (.builtin "getset_descriptor.__get__"))
  tc_Program : PySem.W.takesIn K (.builtin "object.__class__") = some true
  td_Program : PySem.W.mroIn K (C 18) (.type "object") = some true
  kt_Program_int : PySem.W.kitOne K (.ref (C 18)) (.type "int") = some false
  kt_Program_bool : PySem.W.kitOne K (.ref (C 18)) (.type "bool") = some false
  kt_Program_str : PySem.W.kitOne K (.ref (C 18)) (.type "str") = some false
  kt_Program_list : PySem.W.kitOne K (.ref (C 18)) (.type "list") = some false
  kt_Program_tuple : PySem.W.kitOne K (.ref (C 18)) (.type "tuple") = some false
  ko_Program_Row : PySem.W.kitOne K (.ref (C 18)) (.ref (C 8)) = some false
  ko_Program_Test : PySem.W.kitOne K (.ref (C 18)) (.ref (C 13)) = some false
  na_Program_rows : NoAttr K (C 18) "rows"
  na_Program_flat : NoAttr K (C 18) "flat"
  na_Program_lines : NoAttr K (C 18) "lines"
  na_Program_names : NoAttr K (C 18) "names"
  me_Program_str : Meth K (C 18) "__str__" (F 66)
  gc_Sheet : mg "Sheet" = some (.ref (C 19))
  cl_Sheet : Cls K (C 19)
  mk_Sheet : Mk K (C 19) (F 67)
  sf_Sheet : PySem.W.selfFirst K (C 19) = true
  dq_Sheet : PySem.W.subIn K (.ref (C 19)) (.type "collections.deque") = some false
  ta_Sheet : PySem.W.findIn K (.ref (C 19)) "__class__" = some (some (.builtin "object.__class__"))
  tb_Sheet : PySem.W.specialIn K (.builtin "object.__class__") "__get__" = some (some (.builtin "getset_descriptor.__get__"))
  tc_Sheet : PySem.W.takesIn K (.builtin "object.__class__") = some true
  td_Sheet : PySem.W.mroIn K (C 19) (.type "object") = some true
  kt_Sheet_int : PySem.W.kitOne K (.ref (C 19)) (.type "int") = some false
  kt_Sheet_bool : PySem.W.kitOne K (.ref (C 19)) (.type "bool") = some false
  kt_Sheet_str : PySem.W.kitOne K (.ref (C 19)) (.type "str") = some false
  kt_Sheet_list : PySem.W.kitOne K (.ref (C 19)) (.type "list") = some false
  kt_Sheet_tuple : PySem.W.kitOne K (.ref (C 19)) (.type "tuple") = some false
  ko_Sheet_Row : PySem.W.kitOne K (.ref (C 19)) (.ref (C 8)) = some false
  ko_Sheet_Test : PySem.W.kitOne K (.ref (C 19)) (.ref (C 13)) = some false
  na_Sheet_rows : NoAttr K (C 19) "rows"
  me_Sheet_need_place : Meth K (C 19) "need_place" (F 68)
  me_Sheet_drop : Meth K (C 19) "drop" (F 69)
  me_Sheet_made : Meth K (C 19) "made" (F 70)
  me_Sheet_getitem : Meth K (C 19) "__getitem__" (F 71)
  me_Sheet_setitem : Meth K (C 19) "__setitem__" (F 72)
  me_Sheet_iadd : Meth K (C 19) "__iadd__" (F 73)
  me_Sheet_len : Meth K (C 19) "__len__" (F 74)
structure Exs (P : Program) (K : PySem.W.Frag) (mg : Str → Option Value) (C I : Nat → Addr) : Prop where
  g_NoRow : mg "NoRow" = some (.ref (C 7))
  g_InvalidRow : mg "InvalidRow" = some (.ref (C 4))
  x_NoRow : PySem.SupX.SupTxt PySem.SupX.iE P K mg "NoRow" "at" (C 7) (I 7)
  i_NoRow : ExcC K (C 7)
  m_NoRow_NoRow : PySem.W.exmOne K (.ref (C 7)) (.ref (C 7)) = some true
  m_NoRow_InvalidRow : PySem.W.exmOne K (.ref (C 7)) (.ref (C 4)) = some false
  x_InvalidRow : PySem.SupX.SupTxt PySem.SupX.vE P K mg "InvalidRow" "word" (C 4) (I 4)
  i_InvalidRow : ExcC K (C 4)
  m_InvalidRow_NoRow : PySem.W.exmOne K (.ref (C 4)) (.ref (C 7)) = some false
  m_InvalidRow_InvalidRow : PySem.W.exmOne K (.ref (C 4)) (.ref (C 4)) = some true
end K15

local macro_rules | `(tactic| walk_at "go") => `(tactic| repeat (first | refine ⟨_, rfl, ?_⟩ | refine ⟨_, _, rfl, rfl, ?_⟩ | refine ⟨rfl, ?_⟩ | refine ⟨_, _, rfl, rfl, ⟨by decide, by decide, by decide⟩, ?_⟩))
local macro_rules | `(tactic| walk_at "w") => `(tactic| conv => whnf)
local macro_rules | `(tactic| walk_at "z") => `(tactic| first | decide | exact Nat.le_of_ble_eq_true rfl | omega | (simp; omega))
local macro_rules | `(tactic| walk_at "i") => `(tactic| repeat (refine ⟨_, rfl, ?_⟩; walk_at "w"))
namespace K15
open PySem PySem.Spec PyProof.Rows L2 Eb
inductive Ar where
  | nm (s : Str) | no (i : Int)
def Ar.d : Ar → D
  | .nm s => .str s
  | .no i => .int i
inductive MT where
  | ask (w : Str) (ns : List Str) | nt (t : MT)
inductive MR where
  | put (n e : Str) (as : List Ar) | stop | ifs (t : MT) (a b : List MR) | times (k : Int) (a : List MR)
def MT.d : MT → D
  | .ask w ns => .tup [.str "ask", .str w, .tup (ns.map .str)]
  | .nt t => .tup [.str "not", t.d]
mutual
def MR.d : MR → D
  | .put n e as => .tup [.str "put", .str n, .str e, .tup (as.map Ar.d)]
  | .stop => .tup [.str "stop"]
  | .ifs t a b => .tup [.str "if", t.d, .tup (dMs a), .tup (dMs b)]
  | .times k a => .tup [.str "times", .int k, .tup (dMs a)]
def dMs : List MR → List D
  | [] => []
  | r :: rs => r.d :: dMs rs
end
theorem dMs_map : ∀ rs : List MR, dMs rs = rs.map MR.d
  | [] => rfl
  | r :: rs => by rw [dMs, dMs_map rs]; rfl
def MT.text : MT → Str
  | .ask w ns => Txt.join " " (w :: ns)
  | .nt t => "not " ++ t.text
def MT.used : MT → List Str
  | .ask _ ns => ns
  | .nt t => t.used
def Ar.text : Ar → Str
  | .nm s => s
  | .no i => Str.ofString (toString i)
def arUsed : List Ar → List Str
  | [] => []
  | .nm s :: as => s :: arUsed as
  | .no _ :: as => arUsed as
def isSign (e : Str) : Bool := (["+", "-", "*", "//", "**"] : List Str).contains e
def putLine (n e : Str) (as : List Ar) : Str :=
  Txt.join " " ([n, "="] ++ (if isSign e then (as.map Ar.text).take 1 ++ [e] ++ (as.map Ar.text).drop 1 else [e] ++ as.map Ar.text))
mutual
def MR.lines : MR → List Str
  | .put n e as => [putLine n e as]
  | .stop => ["stop"]
  | .ifs t a b => [("if " : Str) ++ t.text] ++ linesM a ++ (if b.isEmpty then [] else [("else" : Str)] ++ linesM b) ++ [("end" : Str)]
  | .times k a => [("times " : Str) ++ Str.ofString (toString k)] ++ linesM a ++ [("end" : Str)]
def linesM : List MR → List Str
  | [] => []
  | r :: rs => r.lines ++ linesM rs
end
mutual
def MR.cnt : MR → Nat
  | .put _ _ _ => 1
  | .stop => 1
  | .ifs _ a b => 1 + (cntM a + cntM b)
  | .times _ a => 1 + cntM a
def cntM : List MR → Nat
  | [] => 0
  | r :: rs => r.cnt + cntM rs
end
mutual
def MR.dep : MR → Nat
  | .put _ _ _ => 1
  | .stop => 1
  | .ifs _ a b => 1 + max (depM a) (depM b)
  | .times _ a => 1 + depM a
def depM : List MR → Nat
  | [] => 0
  | r :: rs => max r.dep (depM rs)
end
def MT.dep : MT → Nat
  | .ask _ _ => 1
  | .nt t => 1 + t.dep
def letter (c : Nat) : Prop := 97 ≤ c ∧ c ≤ 122
def isNm (s : Str) : Prop := (1 ≤ s.length ∧ s.length ≤ 4) ∧ ∀ c ∈ s.cps.toList, letter c
def fitA (k : Nat) : Ar → Prop
  | .nm s => k ≠ 107 ∧ isNm s
  | .no i => k = 107 ∧ 0 ≤ i ∧ i ≤ 1000
def fitL : List Nat → List Ar → Prop
  | [], [] => True
  | k :: ks, a :: as => fitA k a ∧ fitL ks as
  | _, _ => False
def kindS : List (Str × List Nat) := [("+", [120, 121]), ("-", [120, 121]), ("*", [120, 121]), ("//", [120, 121]), ("**", [120, 107]), ("number", [107]), ("base", []), ("let", [120]), ("turned", [120]), ("least", [120]), ("greatest", [120]), ("sum", [120]), ("many", [120]), ("root", [120]), ("figure", [107, 120]), ("first", [107, 120]), ("last", [107, 120]), ("joined", [120, 121]), ("common", [120, 121]), ("lesser", [120, 121]), ("rest", [120, 121])]
def Fit (e : Str) (as : List Ar) : Prop := (e = "figures" ∧ as ≠ [] ∧ as.length ≤ 6 ∧ ∀ a ∈ as, fitA 107 a) ∨ ∃ ks, (e, ks) ∈ kindS ∧ fitL ks as
def askS : List (Str × Nat) := [("same", 2), ("less", 2), ("divides", 2), ("mirrored", 1), ("unlike", 1)]
def OkT : MT → Prop
  | .ask w ns => (w, ns.length) ∈ askS ∧ ∀ x ∈ ns, isNm x
  | .nt t => OkT t
mutual
def OkR : MR → Prop
  | .put n e as => isNm n ∧ Fit e as
  | .stop => True
  | .ifs t a b => (OkT t ∧ t.dep ≤ 6) ∧ OkM a ∧ OkM b
  | .times k a => (0 ≤ k ∧ k ≤ 1000) ∧ OkM a
def OkM : List MR → Prop
  | [] => True
  | r :: rs => OkR r ∧ OkM rs
end
theorem okM_mem : ∀ {rs : List MR}, OkM rs → ∀ r ∈ rs, OkR r
  | r :: rs, h, z, hz => by
    rcases List.mem_cons.mp hz with rfl | hz
    · exact h.1
    · exact okM_mem h.2 z hz
theorem okM_app : ∀ {rs qs : List MR}, OkM rs → OkM qs → OkM (rs ++ qs)
  | [], _, _, h => h
  | r :: rs, _, h, h2 => ⟨h.1, okM_app h.2 h2⟩
theorem cntM_app : ∀ rs qs : List MR, cntM (rs ++ qs) = cntM rs + cntM qs
  | [], qs => by rw [List.nil_append, cntM, Nat.zero_add]
  | r :: rs, qs => by rw [List.cons_append, cntM, cntM, cntM_app rs qs, Nat.add_assoc]
theorem depM_app : ∀ rs qs : List MR, depM (rs ++ qs) = max (depM rs) (depM qs)
  | [], qs => by rw [List.nil_append, depM, Nat.zero_max]
  | r :: rs, qs => by rw [List.cons_append, depM, depM, depM_app rs qs, Nat.max_assoc]
theorem cnt_pos : ∀ r : MR, 1 ≤ r.cnt
  | .put _ _ _ => by rw [MR.cnt]; exact Nat.le_refl _
  | .stop => by rw [MR.cnt]; exact Nat.le_refl _
  | .ifs _ _ _ => by rw [MR.cnt]; omega
  | .times _ _ => by rw [MR.cnt]; omega
theorem cntM_len : ∀ rs : List MR, rs.length ≤ cntM rs
  | [] => Nat.zero_le _
  | r :: rs => by
    have := cnt_pos r
    have := cntM_len rs
    rw [cntM, List.length_cons]
    omega
theorem cnt_mem : ∀ {rs : List MR} {r : MR}, r ∈ rs → r.cnt ≤ cntM rs
  | q :: rs, r, h => by
    rw [cntM]
    rcases List.mem_cons.mp h with rfl | h
    · omega
    · have := cnt_mem h
      omega
theorem dep_mem : ∀ {rs : List MR} {r : MR}, r ∈ rs → r.dep ≤ depM rs
  | q :: rs, r, h => by
    rw [depM]
    rcases List.mem_cons.mp h with rfl | h
    · omega
    · have := dep_mem h
      omega
theorem dep_pos : ∀ r : MR, 1 ≤ r.dep
  | .put _ _ _ => by rw [MR.dep]; exact Nat.le_refl _
  | .stop => by rw [MR.dep]; exact Nat.le_refl _
  | .ifs _ _ _ => by rw [MR.dep]; omega
  | .times _ _ => by rw [MR.dep]; omega
theorem app_len (a b : Str) : (a ++ b).length = a.length + b.length := by
  show (a.cps ++ b.cps).size = _
  rw [Array.size_append]
  rfl
theorem joinL_len (s : List Nat) : ∀ ls : List (List Nat), (joinL s ls).length ≤ (ls.map List.length).sum + ls.length * s.length
  | [] => Nat.zero_le _
  | [x] => by simp [joinL]
  | x :: y :: r => by
    have ih := joinL_len s (y :: r)
    have e : joinL s (x :: y :: r) = x ++ s ++ joinL s (y :: r) := rfl
    rw [e, List.length_append, List.length_append, List.map_cons, List.sum_cons, List.length_cons, Nat.succ_mul]
    omega
theorem join_len (s : Str) (ys : List Str) : (Txt.join s ys).length ≤ (ys.map (·.length)).sum + ys.length * s.length := by
  have e : Txt.join s ys = tx (joinL s.cps.toList (ys.map fun y => y.cps.toList)) := by
    rw [← tx_join, List.map_map, ← tx_of s]
    congr 1
    exact (List.map_id' ys).symm
  rw [e, tx_len]
  refine Nat.le_trans (joinL_len _ _) ?_
  rw [List.length_map, List.map_map]
  exact Nat.le_refl _
theorem num_len {i : Int} (h0 : 0 ≤ i) (h : i ≤ 1000) : (Str.ofString (toString i)).length ≤ 4 := by
  obtain ⟨m, rfl⟩ := Int.eq_ofNat_of_zero_le h0
  rw [tx_num, tx_len]
  exact dg_len (by decide) (by omega)
theorem nm_len {s : Str} (h : isNm s) : s.length ≤ 4 := h.1.2
theorem sum_le {ys : List Nat} {k : Nat} (h : ∀ y ∈ ys, y ≤ k) : ys.sum ≤ ys.length * k := by
  induction ys with
  | nil => simp
  | cons y ys ih =>
    rw [List.sum_cons, List.length_cons, Nat.succ_mul]
    have := ih fun z hz => h z (List.mem_cons_of_mem _ hz)
    have := h y (List.mem_cons_self ..)
    omega
theorem sumS_le {ys : List Str} {k : Nat} (h : ∀ y ∈ ys, y.length ≤ k) : (ys.map (·.length)).sum ≤ ys.length * k := by
  have := sum_le (ys := ys.map (·.length)) (k := k) fun y hy => by
    obtain ⟨z, hz, rfl⟩ := List.mem_map.mp hy
    exact h z hz
  rwa [List.length_map] at this
theorem ask_word {w : Str} {k : Nat} (h : (w, k) ∈ askS) : w.length ≤ 8 ∧ 1 ≤ k ∧ k ≤ 2 := by
  simp only [askS, List.mem_cons, List.not_mem_nil, or_false, Prod.mk.injEq] at h
  rcases h with ⟨rfl, rfl⟩ | ⟨rfl, rfl⟩ | ⟨rfl, rfl⟩ | ⟨rfl, rfl⟩ | ⟨rfl, rfl⟩ <;> decide +kernel
theorem text_len : ∀ {t : MT}, OkT t → t.text.length ≤ 20 + 4 * t.dep
  | .ask w ns, h => by
    obtain ⟨h1, h2⟩ := h
    obtain ⟨a, b, c⟩ := ask_word h1
    have h3 := join_len " " (w :: ns)
    have h4 := sumS_le (ys := ns) fun y hy => nm_len (h2 y hy)
    rw [List.map_cons, List.sum_cons, List.length_cons, show (" " : Str).length = 1 from by decide +kernel] at h3
    rw [MT.text, MT.dep]
    omega
  | .nt t, h => by
    have ih := text_len (t := t) h
    rw [MT.text, MT.dep, app_len, show ("not " : Str).length = 4 from by decide +kernel]
    omega
theorem fitA_len {k : Nat} {a : Ar} (h : fitA k a) : a.text.length ≤ 4 := by
  cases a with
  | nm s => exact nm_len h.2
  | no i => exact num_len h.2.1 h.2.2
theorem fitL_len : ∀ {ks : List Nat} {as : List Ar}, fitL ks as → as.length = ks.length ∧ ∀ a ∈ as, ∃ k, fitA k a
  | [], [], _ => ⟨rfl, fun a h => by cases h⟩
  | k :: ks, a :: as, h => by
    obtain ⟨h1, h2⟩ := fitL_len h.2
    exact ⟨by simp [h1], fun b hb => by
      rcases List.mem_cons.mp hb with rfl | hb
      · exact ⟨k, h.1⟩
      · exact h2 b hb⟩
theorem kind_len {e : Str} {ks : List Nat} (h : (e, ks) ∈ kindS) : e.length ≤ 8 ∧ ks.length ≤ 2 := by
  have : ∀ p ∈ kindS, p.1.length ≤ 8 ∧ p.2.length ≤ 2 := by decide +kernel
  exact this _ h
theorem fit_len {e : Str} {as : List Ar} (h : Fit e as) : e.length ≤ 8 ∧ as.length ≤ 6 ∧ ∀ a ∈ as, a.text.length ≤ 4 := by
  rcases h with ⟨rfl, _, h1, h2⟩ | ⟨ks, h1, h2⟩
  · exact ⟨by decide +kernel, h1, fun a ha => fitA_len (h2 a ha)⟩
  · obtain ⟨a, b⟩ := kind_len h1
    obtain ⟨c, d⟩ := fitL_len h2
    exact ⟨a, by omega, fun x hx => by obtain ⟨k, hk⟩ := d x hx; exact fitA_len hk⟩
def putWords (e : Str) (as : List Ar) : List Str := if isSign e then (as.map Ar.text).take 1 ++ [e] ++ (as.map Ar.text).drop 1 else [e] ++ as.map Ar.text
theorem words_len {e : Str} {as : List Ar} (h : Fit e as) : (putWords e as).length ≤ 7 ∧ ∀ y ∈ putWords e as, y.length ≤ 8 := by
  obtain ⟨h1, h2, h3⟩ := fit_len h
  have h4 : ∀ y ∈ as.map Ar.text, y.length ≤ 8 := fun y hy => by
    obtain ⟨a, ha, rfl⟩ := List.mem_map.mp hy
    have := h3 a ha
    omega
  unfold putWords
  split
  · refine ⟨by simp; omega, fun y hy => ?_⟩
    rcases List.mem_append.mp hy with hy | hy
    · rcases List.mem_append.mp hy with hy | hy
      · exact h4 y (List.mem_of_mem_take hy)
      · rw [List.mem_singleton.mp hy]; exact h1
    · exact h4 y (List.mem_of_mem_drop hy)
  · refine ⟨by simp; omega, fun y hy => ?_⟩
    rcases List.mem_append.mp hy with hy | hy
    · rw [List.mem_singleton.mp hy]; exact h1
    · exact h4 y hy
theorem putLine_len {n e : Str} {as : List Ar} (hn : isNm n) (h : Fit e as) : (putLine n e as).length ≤ 100 := by
  obtain ⟨h1, h2⟩ := words_len h
  have h3 := join_len " " ([n, "="] ++ putWords e as)
  have h4 := sumS_le h2
  have h5 := nm_len hn
  have h6 : (putWords e as).length * 8 ≤ 56 := by omega
  rw [List.map_append, List.sum_append, List.length_append, show (" " : Str).length = 1 from by decide +kernel] at h3
  simp only [List.map_cons, List.map_nil, List.sum_cons, List.sum_nil, List.length_cons, List.length_nil, show ("=" : Str).length = 1 from by decide +kernel] at h3
  show (Txt.join " " ([n, "="] ++ putWords e as)).length ≤ 100
  omega
mutual
theorem lines_len : ∀ {r : MR}, OkR r → (∀ l ∈ r.lines, l.length ≤ 100) ∧ r.lines.length ≤ 3 * r.cnt
  | .put n e as, h => by
    rw [OkR] at h
    rw [MR.lines, MR.cnt]
    exact ⟨fun l hl => by rw [List.mem_singleton.mp hl]; exact putLine_len h.1 h.2, by simp⟩
  | .stop, h => by
    rw [MR.lines, MR.cnt]
    exact ⟨fun l hl => by rw [List.mem_singleton.mp hl]; decide +kernel, by simp⟩
  | .ifs t a b, h => by
    rw [OkR] at h
    obtain ⟨⟨h1, h2⟩, h3, h4⟩ := h
    obtain ⟨i1, i2⟩ := linesM_len h3
    obtain ⟨j1, j2⟩ := linesM_len h4
    have hb : b ≠ [] → 1 ≤ cntM b := fun hb => by
      have := cntM_len b
      have := List.length_pos_iff.mpr hb
      omega
    rw [MR.lines, MR.cnt]
    refine ⟨fun l hl => ?_, ?_⟩
    · simp only [List.mem_append, List.mem_singleton] at hl
      rcases hl with ((hl | hl) | hl) | hl
      · have := text_len h1
        rw [hl, app_len, show ("if " : Str).length = 3 from by decide +kernel]
        omega
      · exact i1 l hl
      · split at hl
        · cases hl
        · rcases List.mem_append.mp hl with hl | hl
          · rw [List.mem_singleton.mp hl]; decide +kernel
          · exact j1 l hl
      · rw [hl]; decide +kernel
    · simp only [List.length_append, List.length_singleton]
      split
      · simp; omega
      · rename_i hne
        have := hb (by simpa using hne)
        simp
        omega
  | .times k a, h => by
    rw [OkR] at h
    obtain ⟨i1, i2⟩ := linesM_len h.2
    rw [MR.lines, MR.cnt]
    refine ⟨fun l hl => ?_, by simp; omega⟩
    simp only [List.mem_append, List.mem_singleton] at hl
    rcases hl with (hl | hl) | hl
    · have := num_len h.1.1 h.1.2
      rw [hl, app_len, show ("times " : Str).length = 6 from by decide +kernel]
      omega
    · exact i1 l hl
    · rw [hl]; decide +kernel
theorem linesM_len : ∀ {rs : List MR}, OkM rs → (∀ l ∈ linesM rs, l.length ≤ 100) ∧ (linesM rs).length ≤ 3 * cntM rs
  | [], _ => by rw [linesM, cntM]; exact ⟨fun l hl => absurd hl (List.not_mem_nil), Nat.le_refl _⟩
  | r :: rs, h => by
    rw [OkM] at h
    obtain ⟨i1, i2⟩ := lines_len h.1
    obtain ⟨j1, j2⟩ := linesM_len h.2
    rw [linesM, cntM]
    refine ⟨fun l hl => ?_, by rw [List.length_append]; omega⟩
    rcases List.mem_append.mp hl with hl | hl
    · exact i1 l hl
    · exact j1 l hl
end
theorem linesM_app : ∀ rs qs : List MR, linesM (rs ++ qs) = linesM rs ++ linesM qs
  | [], qs => by rw [List.nil_append, linesM, List.nil_append]
  | r :: rs, qs => by rw [List.cons_append, linesM, linesM, linesM_app rs qs, List.append_assoc]

end K15

local macro_rules | `(tactic| walk_at "go") => `(tactic| repeat (first | refine ⟨_, rfl, ?_⟩ | refine ⟨_, _, rfl, rfl, ?_⟩ | refine ⟨rfl, ?_⟩ | refine ⟨_, _, rfl, rfl, ⟨by decide, by decide, by decide⟩, ?_⟩))
local macro_rules | `(tactic| walk_at "w") => `(tactic| conv => whnf)
local macro_rules | `(tactic| walk_at "z") => `(tactic| first | decide | exact Nat.le_of_ble_eq_true rfl | omega | (simp; omega))
local macro_rules | `(tactic| walk_at "i") => `(tactic| repeat (refine ⟨_, rfl, ?_⟩; walk_at "w"))
namespace K15
open PySem PySem.Spec PyProof.Rows L2 Eb
variable {q : D → Prop} {x : DX → Prop}
theorem sg_nm {c : Nat} (h : letter c) : decide (c ∈ ("abcdefghijklmnopqrstuvwxyz" : Str).cps.toList) = true := by
  obtain ⟨h1, h2⟩ := h
  have : ∀ c : Fin 123, 97 ≤ c.val → decide (c.val ∈ ("abcdefghijklmnopqrstuvwxyz" : Str).cps.toList) = true := by decide +kernel
  exact this ⟨c, by omega⟩ h1
theorem name_v {s : Str} (h : isNm s) (k : q (.bl true)) : wp_is_name [.str s] q x := by
  obtain ⟨⟨h1, h2⟩, h3⟩ := h
  unfold wp_is_name
  refine ⟨rfl, ?_⟩
  walk_at "w"
  refine ⟨by omega, ?_⟩
  walk_at "w"
  refine iteB_t (decide_eq_true (show (1 : Int) ≤ (s.length : Nat) by omega)) ?_
  walk_at "w"
  refine iteB_f (by rw [Bool.not_eq_false']; exact decide_eq_true (show ((s.length : Nat) : Int) ≤ 4 by omega)) ?_
  walk_at "w"
  refine lc_map (φ := fun c : Nat => D.str ⟨#[c]⟩) (fun c => .bl true) s.cps.toList (fun c hc kk n hk => ?_) (by have : s.cps.toList.length = s.length := rfl; omega) ?_
  · walk_at "w"
    refine ⟨c, rfl, ?_⟩
    rw [if_neg Bool.false_ne_true, sg_nm (h3 c hc)]
    exact hk
  walk_at "w"
  refine ⟨s.cps.toList.map fun _ => true, by rw [List.map_map]; rfl, ?_⟩
  rw [show (s.cps.toList.map fun _ => true).all id = true from by simp]
  exact k
theorem integer_v {i : Int} (k : q (.bl true)) : wp_is_integer [.int i] q x := by
  unfold wp_is_integer
  refine ⟨rfl, ?_⟩
  walk_at "w"
  exact k
theorem number_v {i : Int} (h : 0 ≤ i) (k : q (.bl true)) : wp_is_number [.int i] q x := by
  unfold wp_is_number
  refine ⟨rfl, ?_⟩
  walk_at "w"
  refine integer_v ?_
  walk_at "w"
  show q (.bl (decide (i ≥ 0)))
  rw [decide_eq_true h]
  exact k
theorem kind_at : ∀ p ∈ kindS, (p.1 == ("figures" : Str)) = false ∧ ((isSign p.1 = true ∧ kv_SIGNS.lookup p.1 = some (.str (tx p.2))) ∨ (isSign p.1 = false ∧ kv_SIGNS.lookup p.1 = none ∧ kv_PLAIN.lookup p.1 = some (.str (tx p.2)))) := by
  unfold kv_SIGNS kv_PLAIN
  intro p h
  simp only [kindS, List.mem_cons, List.not_mem_nil, or_false] at h
  rcases h with rfl | rfl | rfl | rfl | rfl | rfl | rfl | rfl | rfl | rfl | rfl | rfl | rfl | rfl | rfl | rfl | rfl | rfl | rfl | rfl | rfl <;> first | exact ⟨by decide +kernel, .inl ⟨by decide +kernel, rfl⟩⟩ | exact ⟨by decide +kernel, .inr ⟨by decide +kernel, rfl, rfl⟩⟩
theorem fig_at : isSign "figures" = false ∧ kv_SIGNS.lookup ("figures" : Str) = none ∧ kv_PLAIN.lookup ("figures" : Str) = none := by
  unfold kv_SIGNS kv_PLAIN
  exact ⟨by decide +kernel, rfl, rfl⟩
theorem signs_is {e : Str} {as : List Ar} (h : Fit e as) : (kv_SIGNS.lookup e).isSome = isSign e := by
  rcases h with ⟨rfl, _⟩ | ⟨ks, h, _⟩
  · rw [fig_at.1, fig_at.2.1]; rfl
  · rcases (kind_at _ h).2 with ⟨h1, h2⟩ | ⟨h1, h2, _⟩
    · rw [h1, h2]; rfl
    · rw [h1, h2]; rfl
theorem plain_is {e : Str} {ks : List Nat} (h : (e, ks) ∈ kindS) : ((kv_SIGNS.lookup e).isSome || (kv_PLAIN.lookup e).isSome) = true := by
  rcases (kind_at _ h).2 with ⟨h1, h2⟩ | ⟨h1, h2, h3⟩
  · rw [show kv_SIGNS.lookup e = _ from h2]; rfl
  · rw [show kv_PLAIN.lookup e = _ from h3, Bool.or_eq_true_iff]; exact .inr rfl
theorem deed_v {e : Str} {as : List Ar} (h : Fit e as) (k : q (.bl true)) : wp_is_deed [.str e] q x := by
  unfold wp_is_deed
  refine ⟨rfl, ?_⟩
  walk_at "w"
  rcases h with ⟨rfl, _⟩ | ⟨ks, h, _⟩
  · exact k
  · have h1 := (kind_at _ h).1
    have h2 := plain_is h
    refine iteB_f h1 ?_
    walk_at "w"
    refine iteB_by (fun c => ?_) (fun c => ?_)
    · walk_at "w"
      rw [if_neg Bool.false_ne_true] at c ⊢
      rw [c]
      exact k
    · walk_at "w"
      rw [if_neg Bool.false_ne_true] at c ⊢
      rw [c, Bool.false_or] at h2
      rw [h2]
      exact k
theorem fitN {as : List Ar} (h : ∀ a ∈ as, fitA 107 a) : ∃ is : List Int, as = is.map Ar.no ∧ ∀ i ∈ is, 0 ≤ i := by
  induction as with
  | nil => exact ⟨[], rfl, fun i h => by cases h⟩
  | cons a as ih =>
    obtain ⟨is, rfl, h2⟩ := ih fun b hb => h b (List.mem_cons_of_mem _ hb)
    have := h a (List.mem_cons_self ..)
    cases a with
    | nm s => exact absurd rfl this.1
    | no i => exact ⟨i :: is, rfl, fun j hj => by
        rcases List.mem_cons.mp hj with rfl | hj
        · exact this.2.1
        · exact h2 j hj⟩
theorem zip_fit : ∀ {ks : List Nat} {as : List Ar}, zpD (chD (tx ks)) (as.map Ar.d) = (ks.zip as).map fun p => .tup [.str ⟨#[p.1]⟩, p.2.d]
  | ks, as => by
    unfold zpD chD
    rw [tx_cps, List.zip_map, List.map_map]
    rfl
theorem zip_mem : ∀ {ks : List Nat} {as : List Ar}, fitL ks as → ∀ p ∈ ks.zip as, fitA p.1 p.2
  | [], [], _, p, hp => by simp at hp
  | k :: ks, a :: as, h, p, hp => by
    rw [List.zip_cons_cons] at hp
    rcases List.mem_cons.mp hp with rfl | hp
    · exact h.1
    · exact zip_mem h.2 p hp
theorem one_k (c : Nat) : (({ cps := #[c] } : Str) == Str.ofString "k") = decide (c = 107) := by
  rw [show Str.ofString "k" = tx [107] from by decide +kernel]
  show (tx [c] == tx [107]) = _
  rw [tx_beq, Bool.eq_iff_iff]
  simp
theorem given_v {e : Str} {as : List Ar} (h : Fit e as) (k : q (.bl true)) : wp_are_given [.str e, .tup (as.map Ar.d)] q x := by
  unfold wp_are_given
  refine ⟨rfl, ?_⟩
  rcases h with ⟨rfl, h1, h2, h3⟩ | ⟨ks, h, h2⟩
  · obtain ⟨is, rfl, h4⟩ := fitN h3
    rw [show (is.map Ar.no).map Ar.d = is.map D.int by rw [List.map_map]; rfl]
    walk_at "w"
    rw [decide_eq_true (show ((is.map D.int).length : Int) > 0 by
      have := List.length_pos_iff.mpr h1
      rw [List.length_map] at this ⊢
      omega)]
    walk_at "w"
    refine lc_map (φ := D.int) (fun _ => .bl true) is (fun i hi kk n hk => ?_) (by rw [List.length_map] at h2; omega) ?_
    · walk_at "w"
      refine number_v (h4 i hi) ?_
      exact hk
    walk_at "w"
    refine ⟨is.map fun _ => true, by rw [List.map_map]; rfl, ?_⟩
    rw [show (is.map fun _ => true).all id = true from by simp]
    exact k
  · have h1 := (kind_at _ h).1
    have e2 : (List.lookup e kv_SIGNS).getD ((List.lookup e kv_PLAIN).getD (D.str "")) = .str (tx ks) := by
      rcases (kind_at _ h).2 with ⟨_, z⟩ | ⟨_, z1, z2⟩
      · rw [show List.lookup e kv_SIGNS = _ from z]; rfl
      · rw [show List.lookup e kv_SIGNS = _ from z1, show List.lookup e kv_PLAIN = _ from z2]; rfl
    obtain ⟨l1, l2⟩ := fitL_len h2
    obtain ⟨_, l3⟩ := kind_len h
    walk_at "w"
    refine iteB_f h1 ?_
    walk_at "w"
    rw [e2]
    walk_at "w"
    refine ⟨by rw [tx_len]; omega, ?_⟩
    walk_at "w"
    refine iteB_f ?_ ?_
    · rw [Bool.not_eq_false', beq_iff_eq, List.length_map, tx_len]
      omega
    walk_at "w"
    refine ⟨by
      have : ∀ p ∈ kindS, (tx p.2).cps.all (· < 128) = true := by decide +kernel
      exact this _ h, ?_⟩
    rw [zip_fit]
    refine lc_map (fun _ => .bl true) (ks.zip as) (fun p hp kk n hk => ?_) (by rw [List.length_zip]; omega) ?_
    · have hf := zip_mem h2 p hp
      obtain ⟨c, a⟩ := p
      walk_at "w"
      rw [one_k]
      cases a with
      | nm y =>
        rw [decide_eq_false hf.1]
        exact name_v hf.2 hk
      | no i =>
        rw [decide_eq_true hf.1]
        exact number_v hf.2.1 hk
    walk_at "w"
    refine ⟨(ks.zip as).map fun _ => true, by rw [List.map_map]; rfl, ?_⟩
    rw [show ((ks.zip as).map fun _ => true).all id = true from by simp]
    exact k
theorem str_v {a : Ar} (h : a.text.length ≤ 4) {q : D → Prop} (k : q (.str a.text)) (i0 : ∀ i, a = .no i → Sm i) : strD [a.d] q x := by
  cases a with
  | nm s => exact k
  | no i => exact ⟨log_of (i0 i rfl), k⟩
theorem fit_sm {e : Str} {as : List Ar} (h : Fit e as) : ∀ a ∈ as, ∀ i, a = .no i → Sm i := fun a ha i e => by
  have : fitA 107 a := by
    rcases h with ⟨_, _, _, h⟩ | ⟨ks, _, h⟩
    · exact h a ha
    · obtain ⟨k, hk⟩ := (fitL_len h).2 a ha
      subst e
      have : k = 107 := hk.1
      rw [this] at hk
      exact hk
  subst e
  exact sm_lil (by have := this.2.1; omega) (by have := this.2.2; omega)
theorem line_v {n e : Str} {as : List Ar} (hn : isNm n) (h : Fit e as) (k : q (.str (putLine n e as))) : wp_put_line [.str n, .str e, .tup (as.map Ar.d)] q x := by
  obtain ⟨h1, h2, h3⟩ := fit_len h
  unfold wp_put_line
  refine ⟨rfl, ?_⟩
  walk_at "w"
  refine lc_map (φ := Ar.d) (fun a => .str a.text) as (fun a ha kk n hk => ?_) (by omega) ?_
  · walk_at "w"
    exact str_v (x := fun _ => False) (h3 a ha) hk (fit_sm h a ha)
  rw [show as.map (fun a => D.str a.text) = (as.map Ar.text).map D.str by rw [List.map_map]; rfl]
  have hl : (as.map Ar.text).length ≤ 6 := by rw [List.length_map]; exact h2
  obtain ⟨w1, w2⟩ := words_len h
  have k : q (.str (Txt.join " " ([n, "="] ++ putWords e as))) := k
  have fin : ∀ ws, putWords e as = ws → (([n, ("=" : Str)] ++ ws).map (·.length)).sum + ([n, ("=" : Str)] ++ ws).length * (" " : Str).length ≤ 100000 := fun ws hw => by
    subst hw
    have h4 := sumS_le w2
    have h5 := nm_len hn
    have h6 : (putWords e as).length * 8 ≤ 56 := by omega
    rw [List.map_append, List.sum_append, List.length_append, show (" " : Str).length = 1 from by decide +kernel]
    simp only [List.map_cons, List.map_nil, List.sum_cons, List.sum_nil, List.length_cons, List.length_nil, show ("=" : Str).length = 1 from by decide +kernel]
    omega
  unfold putWords at k fin
  generalize as.map Ar.text = ws at *
  have c1 : cutL (ws.map D.str) none (some 1) = (ws.take 1).map D.str := by rw [show (1 : Int) = ((1 : Nat) : Int) from rfl, cut_take, List.map_take]
  have c2 : cutL (ws.map D.str) (some 1) none = (ws.drop 1).map D.str := by rw [show (1 : Int) = ((1 : Nat) : Int) from rfl, cut_drop, List.map_drop]
  walk_at "w"
  rw [if_neg Bool.false_ne_true, signs_is h]
  cases hs : isSign e with
  | true =>
    rw [hs] at k fin
    rw [if_pos rfl] at k fin
    walk_at "w"
    rw [c1]
    refine ⟨by simp, ?_⟩
    walk_at "w"
    refine ⟨by simp; omega, ?_⟩
    walk_at "w"
    rw [c2]
    refine ⟨by simp; omega, ?_⟩
    walk_at "w"
    refine ⟨by simp, ?_⟩
    walk_at "w"
    refine ⟨by simp; omega, ?_⟩
    walk_at "w"
    refine ⟨[n, "="] ++ (ws.take 1 ++ [e] ++ ws.drop 1), .inl (by simp), fin _ rfl, k⟩
  | false =>
    rw [hs] at k fin
    rw [if_neg Bool.false_ne_true] at k fin
    walk_at "w"
    refine ⟨by simp, ?_⟩
    walk_at "w"
    refine ⟨by simp; omega, ?_⟩
    walk_at "w"
    refine ⟨by simp, ?_⟩
    walk_at "w"
    refine ⟨by simp; omega, ?_⟩
    walk_at "w"
    refine ⟨[n, "="] ++ ([e] ++ ws), .inl (by simp), fin _ rfl, k⟩
def mtO : MT → D
  | .ask w ns => .obj 14 [.str (MT.ask w ns).text, .tup (ns.map .str), .str w, .tup (ns.map .str)]
  | .nt t => .obj 15 [.str (MT.nt t).text, .tup (t.used.map .str), mtO t]
mutual
def MR.o : MR → D
  | .put n e as => .obj 9 [.tup [.str (putLine n e as)], .tup [], .tup ((n :: arUsed as).map .str), .str n, .str e, .tup (as.map Ar.d)]
  | .stop => .obj 10 [.tup [.str "stop"], .tup [], .tup []]
  | .ifs t a b => .obj 11 [mtO t, .tup (oMs a), .tup (oMs b), .tup ((MR.ifs t a b).lines.map .str), .tup (oMs a ++ oMs b), .tup (t.used.map .str)]
  | .times k a => .obj 12 [.int k, .tup (oMs a), .tup ((MR.times k a).lines.map .str), .tup (oMs a), .tup []]
def oMs : List MR → List D
  | [] => []
  | r :: rs => r.o :: oMs rs
end
theorem oMs_map : ∀ rs : List MR, oMs rs = rs.map MR.o
  | [] => rfl
  | r :: rs => by rw [oMs, oMs_map rs]; rfl
theorem used_lc : ∀ as : List Ar, ((as.filter fun a => match a with | .nm _ => true | .no _ => false).map Ar.d) = (arUsed as).map D.str
  | [] => rfl
  | .nm s :: as => by
    rw [List.filter_cons_of_pos rfl, List.map_cons, used_lc as]
    rfl
  | .no i :: as => by
    rw [List.filter_cons_of_neg (by simp), used_lc as]
    rfl
theorem init_put {a b c : List D} {q : List D → Prop} (k : q [.tup a, .tup b, .tup c]) : wp_Row_init_Put [.lst a, .lst b, .lst c] [] q := by
  unfold wp_Row_init_Put
  refine ⟨rfl, ?_⟩
  walk_at "w"
  refine ⟨rfl, rfl, ?_⟩
  walk_at "w"
  refine ⟨rfl, rfl, ?_⟩
  walk_at "w"
  refine ⟨rfl, rfl, ?_⟩
  exact ⟨rfl, k⟩
theorem init_stop {a b c : List D} {q : List D → Prop} (k : q [.tup a, .tup b, .tup c]) : wp_Row_init_Stop [.lst a, .lst b, .lst c] [] q := by
  unfold wp_Row_init_Stop
  refine ⟨rfl, ?_⟩
  walk_at "w"
  refine ⟨rfl, rfl, ?_⟩
  walk_at "w"
  refine ⟨rfl, rfl, ?_⟩
  walk_at "w"
  refine ⟨rfl, rfl, ?_⟩
  exact ⟨rfl, k⟩
theorem used_len : ∀ as : List Ar, (arUsed as).length ≤ as.length
  | [] => Nat.le_refl _
  | .nm s :: as => Nat.succ_le_succ (used_len as)
  | .no i :: as => Nat.le_succ_of_le (used_len as)
theorem put_v {n e : Str} {as : List Ar} {q : List D → Prop} (hn : isNm n) (h : Fit e as) (k : q [.tup [.str (putLine n e as)], .tup [], .tup ((n :: arUsed as).map .str), .str n, .str e, .tup (as.map Ar.d)]) : wp_Put_init (.str n :: .str e :: as.map Ar.d) q x := by
  obtain ⟨h1, h2, h3⟩ := fit_len h
  unfold wp_Put_init
  refine ⟨⟨by simp, by simp; omega⟩, ?_⟩
  show wpOfI _ _ _ _ _ [.str n, .str e, .tup (as.map Ar.d)] q x
  refine ⟨rfl, ?_⟩
  walk_at "w"
  refine name_v hn ?_
  walk_at "w"
  refine deed_v h ?_
  walk_at "w"
  refine given_v h ?_
  walk_at "w"
  refine ⟨rfl, ?_⟩
  walk_at "w"
  refine line_v hn h ?_
  walk_at "w"
  refine ⟨by walk_at "z", ?_⟩
  walk_at "w"
  refine ⟨by walk_at "z", ?_⟩
  walk_at "w"
  refine ⟨by walk_at "z", ?_⟩
  walk_at "w"
  refine lc_filter (φ := Ar.d) (fun a => match a with | .nm _ => true | .no _ => false) Ar.d as [] (fun a ha kk n h1 h2 => ?_) (by simp; omega) ?_
  · cases a with
    | nm y =>
      walk_at "w"
      exact h1 rfl
    | no i =>
      walk_at "w"
      exact h2 rfl
  rw [List.nil_append, used_lc]
  walk_at "w"
  refine ⟨by simp; have := used_len as; omega, ?_⟩
  walk_at "w"
  refine init_put ?_
  walk_at "w"
  refine ⟨rfl, rfl, ?_⟩
  walk_at "w"
  refine ⟨rfl, rfl, ?_⟩
  walk_at "w"
  refine ⟨rfl, rfl, ?_⟩
  walk_at "w"
  refine ⟨rfl, rfl, ?_⟩
  rw [List.map_cons] at k
  exact k
theorem stop_v {q : List D → Prop} (k : q [.tup [.str "stop"], .tup [], .tup []]) : wp_Stop_init [] q x := by
  unfold wp_Stop_init
  refine ⟨rfl, ?_⟩
  walk_at "w"
  refine ⟨rfl, ?_⟩
  walk_at "w"
  refine ⟨by walk_at "z", ?_⟩
  walk_at "w"
  refine ⟨by walk_at "z", ?_⟩
  walk_at "w"
  refine ⟨by walk_at "z", ?_⟩
  walk_at "w"
  refine init_stop ?_
  walk_at "w"
  exact ⟨rfl, rfl, k⟩
theorem all_true {α : Type} (xs : List α) : (xs.map fun _ => true).all id = true := by simp
theorem rows_of_v {rs : List MR} (hl : rs.length ≤ 1000) (b : Bool) (k : q (.tup (oMs rs))) : wp_rows_of [if b then .lst (oMs rs) else .tup (oMs rs)] q x := by
  unfold wp_rows_of
  refine ⟨rfl, ?_⟩
  rw [oMs_map] at k ⊢
  cases b with
  | true =>
    rw [if_pos rfl]
    walk_at "w"
    refine lc_map (φ := MR.o) (fun _ => .bl true) rs (fun r hr kk n hk => by cases r <;> (walk_at "w"; exact hk)) (by omega) ?_
    walk_at "w"
    refine ⟨rs.map fun _ => true, by rw [List.map_map]; rfl, ?_⟩
    rw [all_true]
    exact k
  | false =>
    rw [if_neg Bool.false_ne_true]
    walk_at "w"
    refine lc_map (φ := MR.o) (fun _ => .bl true) rs (fun r hr kk n hk => by cases r <;> (walk_at "w"; exact hk)) (by omega) ?_
    walk_at "w"
    refine ⟨rs.map fun _ => true, by rw [List.map_map]; rfl, ?_⟩
    rw [all_true]
    exact k
theorem rows_of_l {rs : List MR} (hl : rs.length ≤ 1000) (k : q (.tup (oMs rs))) : wp_rows_of [.lst (oMs rs)] q x := rows_of_v hl true k
theorem rows_of_t {rs : List MR} (hl : rs.length ≤ 1000) (k : q (.tup (oMs rs))) : wp_rows_of [.tup (oMs rs)] q x := rows_of_v hl false k
theorem lines_of_v {rs : List MR} (ok : OkM rs) (hl : cntM rs ≤ 1000) (k : q (.lst ((linesM rs).map .str))) : wp_lines_of [.tup (oMs rs)] q x := by
  obtain ⟨l1, l2⟩ := linesM_len ok
  unfold wp_lines_of
  refine ⟨rfl, ?_⟩
  rw [oMs_map]
  walk_at "w"
  refine ⟨by walk_at "z", ?_⟩
  refine ⟨by walk_at "z", ?_⟩
  dsimp only
  refine seq_by (fun env => ∃ z, env = [.va (.tup (rs.map MR.o)), .ow ((linesM rs).map .str), z]) (fun e' _ _ _ _ hnx => ?_) ?_
  · walk_at "w"
    refine for_map (φ := MR.o) (fun pre env => ∃ z, env = [.va (.tup (rs.map MR.o)), .ow ((linesM pre).map .str), z]) rs ⟨_, rfl⟩ ?_ (fun env h => hnx env h)
    rintro pre r suf _ e2 hx ⟨z, rfl⟩ _ _ _ _ hN
    have hb : (linesM pre).length + r.lines.length ≤ 3000 := by
      have := linesM_app (pre ++ [r]) suf
      rw [List.append_assoc, List.singleton_append, ← hx, linesM_app] at this
      have := congrArg List.length this
      simp only [List.length_append, linesM, List.length_nil] at this
      omega
    have fin : e2.nx [.va (.tup (rs.map MR.o)), .ow ((linesM pre).map .str ++ r.lines.map .str), .va r.o] := hN _ ⟨_, by rw [linesM_app, linesM, linesM, List.append_nil, List.map_append]⟩
    cases r <;> (walk_at "w"; exact ⟨_, rfl, by simp only [List.length_map, MR.lines, List.length_cons, List.length_nil] at hb ⊢; omega, fin⟩)
  rintro _ ⟨z, rfl⟩
  walk_at "w"
  exact k
theorem init_if {f : List D} {a b c : List D} {q : List D → Prop} (hf : f.length = 3) (k : q (f ++ [.tup a, .tup b, .tup c])) : wp_Row_init_If [.lst a, .tup b, .tup c] f q := by
  match f, hf with
  | [u, v, w], _ =>
  unfold wp_Row_init_If
  refine ⟨rfl, ?_⟩
  walk_at "w"
  refine ⟨rfl, rfl, ?_⟩
  walk_at "w"
  refine ⟨rfl, rfl, ?_⟩
  walk_at "w"
  refine ⟨rfl, rfl, ?_⟩
  exact ⟨rfl, k⟩
theorem init_times {f : List D} {a b c : List D} {q : List D → Prop} (hf : f.length = 2) (k : q (f ++ [.tup a, .tup b, .tup c])) : wp_Row_init_Times [.lst a, .tup b, .lst c] f q := by
  match f, hf with
  | [u, v], _ =>
  unfold wp_Row_init_Times
  refine ⟨rfl, ?_⟩
  walk_at "w"
  refine ⟨rfl, rfl, ?_⟩
  walk_at "w"
  refine ⟨rfl, rfl, ?_⟩
  walk_at "w"
  refine ⟨rfl, rfl, ?_⟩
  exact ⟨rfl, k⟩
theorem emp_app (a : Str) : Str.empty ++ a = a := by
  show (⟨#[] ++ a.cps⟩ : Str) = a
  rw [Array.empty_append]
theorem ask_at : ∀ p ∈ askS, kv_ASKED.lookup p.1 = some (.int (p.2 : Nat)) := by
  unfold kv_ASKED
  intro p h
  simp only [askS, List.mem_cons, List.not_mem_nil, or_false] at h
  rcases h with rfl | rfl | rfl | rfl | rfl <;> rfl
theorem times_g {n : Int} {ra : D} {rs : List MR} {q : List D → Prop} (h0 : 0 ≤ n) (h1 : n ≤ 1000) (ok : OkM rs) (hl : cntM rs ≤ 1000) (hr : ∀ (q' : D → Prop) (x' : DX → Prop), q' (.tup (oMs rs)) → wp_rows_of [ra] q' x')
    (k : q [.int n, .tup (oMs rs), .tup ((MR.times n rs).lines.map .str), .tup (oMs rs), .tup []]) : wp_Times_init [.int n, ra] q x := by
  obtain ⟨l1, l2⟩ := linesM_len ok
  have l3 := cntM_len rs
  have l4 := num_len h0 h1
  rw [MR.lines] at k
  unfold wp_Times_init
  refine ⟨rfl, ?_⟩
  walk_at "w"
  refine number_v h0 ?_
  walk_at "w"
  refine ⟨rfl, rfl, ?_⟩
  walk_at "w"
  refine hr _ _ ?_
  walk_at "w"
  refine ⟨rfl, rfl, ?_⟩
  walk_at "w"
  refine ⟨rfl, ?_⟩
  walk_at "w"
  rw [emp_app]
  refine ⟨by decide +kernel, ?_⟩
  walk_at "w"
  refine ⟨log_of (sm_lil (by omega) (by omega)), ?_⟩
  refine ⟨by rw [app_len, show ("times " : Str).length = 6 from by decide +kernel]; omega, ?_⟩
  walk_at "w"
  refine ⟨by walk_at "z", ?_⟩
  walk_at "w"
  refine ⟨rfl, ?_⟩
  refine lines_of_v ok hl ?_
  walk_at "w"
  refine ⟨by simp; omega, ?_⟩
  walk_at "w"
  refine ⟨by walk_at "z", ?_⟩
  walk_at "w"
  refine ⟨by simp; omega, ?_⟩
  walk_at "w"
  refine ⟨rfl, ?_⟩
  walk_at "w"
  refine ⟨by walk_at "z", ?_⟩
  walk_at "w"
  refine init_times rfl ?_
  refine ⟨rfl, rfl, ?_⟩
  rw [List.map_append, List.map_append] at k
  exact k
theorem times_v {n : Int} {rs : List MR} {q : List D → Prop} (h0 : 0 ≤ n) (h1 : n ≤ 1000) (ok : OkM rs) (hl : cntM rs ≤ 1000)
    (k : q [.int n, .tup (oMs rs), .tup ((MR.times n rs).lines.map .str), .tup (oMs rs), .tup []]) : wp_Times_init [.int n, .lst (oMs rs)] q x :=
  times_g h0 h1 ok hl (fun q' x' h => rows_of_l (by have := cntM_len rs; omega) h) k
theorem test_o (t : MT) : ∃ c fs, mtO t = .obj c fs ∧ (c = 14 ∨ c = 15) ∧ fs[0]? = some (.str t.text) ∧ fs[1]? = some (.tup (t.used.map .str)) := by
  cases t with
  | ask w ns => exact ⟨_, _, rfl, .inl rfl, rfl, rfl⟩
  | nt t => exact ⟨_, _, rfl, .inr rfl, rfl, rfl⟩
theorem str_o {c : Nat} {fs : List D} {y : Str} (hc : c = 14 ∨ c = 15) (f0 : fs[0]? = some (.str y)) (hl : y.length ≤ 1000) (k : q (.str y)) : wp_Test_str [.obj c fs] q x := by
  unfold wp_Test_str
  refine ⟨rfl, ?_⟩
  rcases hc with rfl | rfl
  · walk_at "w"
    rw [f0]
    walk_at "w"
    exact ⟨by omega, k⟩
  · walk_at "w"
    rw [f0]
    walk_at "w"
    exact ⟨by omega, k⟩
theorem init_ask {y : Str} {b : List D} {q : List D → Prop} (k : q [.str y, .tup b]) : wp_Test_init_Ask [.str y, .tup b] [] q := by
  unfold wp_Test_init_Ask
  refine ⟨rfl, ?_⟩
  walk_at "w"
  refine ⟨rfl, rfl, ?_⟩
  walk_at "w"
  refine ⟨rfl, rfl, ?_⟩
  exact ⟨rfl, k⟩
theorem init_not {y : Str} {b : List D} {q : List D → Prop} (k : q [.str y, .tup b]) : wp_Test_init_Not [.str y, .tup b] [] q := by
  unfold wp_Test_init_Not
  refine ⟨rfl, ?_⟩
  walk_at "w"
  refine ⟨rfl, rfl, ?_⟩
  walk_at "w"
  refine ⟨rfl, rfl, ?_⟩
  exact ⟨rfl, k⟩
theorem if_w {t : MT} {ra qa : D} {rs qs : List MR} {q : List D → Prop} (ht : OkT t) (h6 : t.dep ≤ 6) (ok : OkM rs) (ok2 : OkM qs) (hl : cntM rs ≤ 1000) (hl2 : cntM qs ≤ 1000) (hr : ∀ (q' : D → Prop) (x' : DX → Prop), q' (.tup (oMs rs)) → wp_rows_of [ra] q' x') (hs : ∀ (q' : D → Prop) (x' : DX → Prop), q' (.tup (oMs qs)) → wp_rows_of [qa] q' x')
    (k : q [mtO t, .tup (oMs rs), .tup (oMs qs), .tup ((MR.ifs t rs qs).lines.map .str), .tup (oMs rs ++ oMs qs), .tup (t.used.map .str)]) : wpOfI 11 6 3 2 t_If_init [mtO t, ra, qa] q x := by
  obtain ⟨l1, l2⟩ := linesM_len ok
  obtain ⟨m1, m2⟩ := linesM_len ok2
  have l3 := cntM_len rs
  have m3 := cntM_len qs
  have l4 := text_len ht
  have r1 : (oMs rs).length ≤ 1000 := by rw [oMs_map, List.length_map]; omega
  have r2 : (oMs qs).length ≤ 1000 := by rw [oMs_map, List.length_map]; omega
  have r3 : (oMs qs).length = qs.length := by rw [oMs_map, List.length_map]
  have hq : (((oMs qs).length : Int) == 0) = qs.isEmpty := by
    rw [r3]
    cases qs <;> simp <;> omega
  rw [MR.lines] at k
  obtain ⟨c, fs, e, hc, f0, f1⟩ := test_o t
  rw [e] at k ⊢
  have hc' := hc
  refine ⟨rfl, ?_⟩
  rcases hc with rfl | rfl <;> (
    walk_at "w"
    refine ⟨rfl, rfl, ?_⟩
    walk_at "w"
    refine hr _ _ ?_
    walk_at "w"
    refine ⟨rfl, rfl, ?_⟩
    walk_at "w"
    refine hs _ _ ?_
    walk_at "w"
    refine ⟨rfl, rfl, ?_⟩
    walk_at "w"
    refine ⟨rfl, ?_⟩
    walk_at "w"
    rw [hq]
    cases hb : qs.isEmpty with
    | true =>
      rw [hb, if_pos rfl] at k
      walk_at "w"
      refine ⟨by walk_at "z", ?_⟩
      walk_at "w"
      rw [emp_app]
      refine ⟨by decide +kernel, ?_⟩
      walk_at "w"
      refine ⟨by decide, ?_⟩
      refine str_o hc' f0 (by omega) ?_
      refine ⟨by rw [app_len, show ("if " : Str).length = 3 from by decide +kernel]; omega, ?_⟩
      walk_at "w"
      refine ⟨by walk_at "z", ?_⟩
      walk_at "w"
      refine ⟨rfl, ?_⟩
      walk_at "w"
      refine lines_of_v ok hl ?_
      walk_at "w"
      refine ⟨by simp; omega, ?_⟩
      walk_at "w"
      refine ⟨by simp; omega, ?_⟩
      walk_at "w"
      refine ⟨by walk_at "z", ?_⟩
      walk_at "w"
      refine ⟨by simp; omega, ?_⟩
      walk_at "w"
      refine ⟨rfl, ?_⟩
      walk_at "w"
      refine ⟨rfl, ?_⟩
      walk_at "w"
      refine ⟨rfl, ?_⟩
      walk_at "w"
      refine ⟨by omega, ?_⟩
      walk_at "w"
      rw [f1]
      walk_at "w"
      refine init_if rfl ?_
      refine ⟨rfl, rfl, ?_⟩
      simp only [List.map_append, List.map_nil] at k
      exact k
    | false =>
      rw [hb, if_neg Bool.false_ne_true] at k
      walk_at "w"
      refine ⟨by walk_at "z", ?_⟩
      walk_at "w"
      refine ⟨rfl, ?_⟩
      walk_at "w"
      refine lines_of_v ok2 hl2 ?_
      walk_at "w"
      refine ⟨by simp; omega, ?_⟩
      walk_at "w"
      rw [emp_app]
      refine ⟨by decide +kernel, ?_⟩
      walk_at "w"
      refine ⟨by decide, ?_⟩
      refine str_o hc' f0 (by omega) ?_
      refine ⟨by rw [app_len, show ("if " : Str).length = 3 from by decide +kernel]; omega, ?_⟩
      walk_at "w"
      refine ⟨by walk_at "z", ?_⟩
      walk_at "w"
      refine ⟨rfl, ?_⟩
      walk_at "w"
      refine lines_of_v ok hl ?_
      walk_at "w"
      refine ⟨by simp; omega, ?_⟩
      walk_at "w"
      refine ⟨by simp; omega, ?_⟩
      walk_at "w"
      refine ⟨by walk_at "z", ?_⟩
      walk_at "w"
      refine ⟨by simp; omega, ?_⟩
      walk_at "w"
      refine ⟨rfl, ?_⟩
      walk_at "w"
      refine ⟨rfl, ?_⟩
      walk_at "w"
      refine ⟨rfl, ?_⟩
      walk_at "w"
      refine ⟨by omega, ?_⟩
      walk_at "w"
      rw [f1]
      walk_at "w"
      refine init_if rfl ?_
      refine ⟨rfl, rfl, ?_⟩
      simp only [List.map_append] at k
      exact k)
theorem if_g {t : MT} {ra qa : D} {rs qs : List MR} {q : List D → Prop} (ht : OkT t) (h6 : t.dep ≤ 6) (ok : OkM rs) (ok2 : OkM qs) (hl : cntM rs ≤ 1000) (hl2 : cntM qs ≤ 1000) (hr : ∀ (q' : D → Prop) (x' : DX → Prop), q' (.tup (oMs rs)) → wp_rows_of [ra] q' x') (hs : ∀ (q' : D → Prop) (x' : DX → Prop), q' (.tup (oMs qs)) → wp_rows_of [qa] q' x')
    (k : q [mtO t, .tup (oMs rs), .tup (oMs qs), .tup ((MR.ifs t rs qs).lines.map .str), .tup (oMs rs ++ oMs qs), .tup (t.used.map .str)]) : wp_If_init [mtO t, ra, qa] q x := by
  have h := if_w (x := x) ht h6 ok ok2 hl hl2 hr hs k
  unfold wp_If_init
  first | exact h | exact .inl h
theorem if_v {t : MT} {rs qs : List MR} {q : List D → Prop} (ht : OkT t) (h6 : t.dep ≤ 6) (ok : OkM rs) (ok2 : OkM qs) (hl : cntM rs ≤ 1000) (hl2 : cntM qs ≤ 1000)
    (k : q [mtO t, .tup (oMs rs), .tup (oMs qs), .tup ((MR.ifs t rs qs).lines.map .str), .tup (oMs rs ++ oMs qs), .tup (t.used.map .str)]) : wp_If_init [mtO t, .lst (oMs rs), .tup (oMs qs)] q x :=
  if_g ht h6 ok ok2 hl hl2 (fun q' x' h => rows_of_l (by have := cntM_len rs; omega) h) (fun q' x' h => rows_of_t (by have := cntM_len qs; omega) h) k
theorem ask_v {w : Str} {ns : List Str} {q : List D → Prop} (ok : OkT (.ask w ns)) (k : q [.str (MT.ask w ns).text, .tup (ns.map .str), .str w, .tup (ns.map .str)]) : wp_Ask_init (.str w :: ns.map .str) q x := by
  obtain ⟨h1, h2⟩ := ok
  obtain ⟨h3, h4, h5⟩ := ask_word h1
  have h6 : kv_ASKED.lookup w = some (.int (ns.length : Nat)) := ask_at _ h1
  unfold wp_Ask_init
  refine ⟨⟨by simp, by simp; omega⟩, ?_⟩
  show wpOfI _ _ _ _ _ [.str w, .tup (ns.map .str)] q x
  refine ⟨rfl, ?_⟩
  walk_at "w"
  rw [if_pos rfl, h6]
  walk_at "w"
  rw [h6]
  walk_at "w"
  refine iteB_f (by rw [Bool.not_eq_false', beq_iff_eq, List.length_map]) ?_
  walk_at "w"
  refine lc_map (φ := D.str) (fun _ => .bl true) ns (fun n hn kk m hk => ?_) (by omega) ?_
  · walk_at "w"
    exact name_v (h2 n hn) hk
  walk_at "w"
  refine ⟨ns.map fun _ => true, by rw [List.map_map]; rfl, ?_⟩
  rw [all_true]
  walk_at "w"
  refine ⟨rfl, ?_⟩
  walk_at "w"
  refine ⟨by walk_at "z", ?_⟩
  walk_at "w"
  refine ⟨by simp; omega, ?_⟩
  walk_at "w"
  have h7 := sumS_le (ys := ns) fun y hy => nm_len (h2 y hy)
  refine ⟨w :: ns, .inl rfl, ?_, ?_⟩
  · rw [List.map_cons, List.sum_cons, List.length_cons, show (" " : Str).length = 1 from by decide +kernel]
    omega
  walk_at "w"
  refine init_ask ?_
  walk_at "w"
  refine ⟨rfl, rfl, ?_⟩
  walk_at "w"
  refine ⟨rfl, rfl, ?_⟩
  exact ⟨rfl, rfl, k⟩
theorem not_v {t : MT} {q : List D → Prop} (ok : OkT t) (hd : t.dep ≤ 20) (k : q [.str (MT.nt t).text, .tup (t.used.map .str), mtO t]) : wp_Not_init [mtO t] q x := by
  have l4 := text_len ok
  rw [MT.text] at k
  obtain ⟨c, fs, e, hc, f0, f1⟩ := test_o t
  rw [e] at k ⊢
  have hc' := hc
  unfold wp_Not_init
  refine ⟨rfl, ?_⟩
  rcases hc with rfl | rfl <;> (
    walk_at "w"
    refine ⟨rfl, ?_⟩
    walk_at "w"
    rw [emp_app]
    refine ⟨by decide +kernel, ?_⟩
    walk_at "w"
    refine ⟨by decide, ?_⟩
    refine str_o hc' f0 (by omega) ?_
    refine ⟨by rw [app_len, show ("not " : Str).length = 4 from by decide +kernel]; omega, ?_⟩
    walk_at "w"
    rw [f1]
    walk_at "w"
    refine init_not ?_
    walk_at "w"
    refine ⟨rfl, rfl, ?_⟩
    exact ⟨rfl, rfl, k⟩)
theorem row_o (r : MR) : ∃ c fs, r.o = .obj c fs ∧ ((c = 9 ∧ fs[0]? = some (.tup (r.lines.map .str))) ∨ (c = 10 ∧ fs[0]? = some (.tup (r.lines.map .str))) ∨ (c = 11 ∧ fs[3]? = some (.tup (r.lines.map .str))) ∨ (c = 12 ∧ fs[2]? = some (.tup (r.lines.map .str)))) := by
  cases r with
  | put n e as => exact ⟨_, _, rfl, .inl ⟨rfl, rfl⟩⟩
  | stop => exact ⟨_, _, rfl, .inr (.inl ⟨rfl, rfl⟩)⟩
  | ifs t a b => exact ⟨_, _, rfl, .inr (.inr (.inl ⟨rfl, rfl⟩))⟩
  | times n a => exact ⟨_, _, rfl, .inr (.inr (.inr ⟨rfl, rfl⟩))⟩
theorem row_str {r : MR} (ok : OkR r) (hl : r.cnt ≤ 300) (k : q (.str (Txt.join "\n" r.lines))) : wp_Row_str [r.o] q x := by
  obtain ⟨l1, l2⟩ := lines_len ok
  have l3 := sumS_le l1
  have fin : (r.lines.map (·.length)).sum + r.lines.length * ("\n" : Str).length ≤ 100000 := by
    rw [show ("\n" : Str).length = 1 from by decide +kernel]
    have : r.lines.length * 100 ≤ 900 * 100 := Nat.mul_le_mul_right _ (by omega)
    omega
  obtain ⟨c, fs, e, h⟩ := row_o r
  rw [e]
  unfold wp_Row_str
  refine ⟨rfl, ?_⟩
  rcases h with ⟨rfl, h⟩ | ⟨rfl, h⟩ | ⟨rfl, h⟩ | ⟨rfl, h⟩ <;> (
    walk_at "w"
    rw [h]
    walk_at "w"
    exact ⟨_, .inr rfl, fin, k⟩)

end K15

local macro_rules | `(tactic| walk_at "go") => `(tactic| repeat (first | refine ⟨_, rfl, ?_⟩ | refine ⟨_, _, rfl, rfl, ?_⟩ | refine ⟨rfl, ?_⟩ | refine ⟨_, _, rfl, rfl, ⟨by decide, by decide, by decide⟩, ?_⟩))
local macro_rules | `(tactic| walk_at "w") => `(tactic| conv => whnf)
local macro_rules | `(tactic| walk_at "z") => `(tactic| first | decide | exact Nat.le_of_ble_eq_true rfl | omega | (simp; omega))
local macro_rules | `(tactic| walk_at "i") => `(tactic| repeat (refine ⟨_, rfl, ?_⟩; walk_at "w"))
namespace K15
open PySem PySem.Spec PyProof.Rows L2 Eb
variable {q : D → Prop} {x : DX → Prop}
theorem pick_ok {ds : List D} (h0 : ds ≠ []) (hl : ds.length ≤ 1000) (h : ∀ d ∈ ds, q d) : wp__law_pick [.lst ds] q x := by
  unfold wp__law_pick
  refine ⟨rfl, ?_⟩
  have : 0 < ds.length := List.length_pos_iff.mpr h0
  walk_at "w"
  refine ⟨by omega, sm_of (by omega) (by omega), fun r r0 r1 => ?_⟩
  have lt : r.toNat < ds.length := by omega
  exact ⟨_, atI_at (k := r.toNat) (by omega) (List.getElem?_eq_getElem lt), h _ (List.getElem_mem lt)⟩
theorem pick_s {s : Str} (h0 : 0 < s.length) (hl : s.length ≤ 1000) (h : ∀ c ∈ s.cps.toList, q (.str ⟨#[c]⟩)) : wp__law_pick [.str s] q x := by
  unfold wp__law_pick
  refine ⟨rfl, ?_⟩
  walk_at "w"
  refine ⟨by omega, ?_⟩
  walk_at "w"
  refine ⟨by omega, sm_of (by omega) (by omega), fun r r0 r1 => ?_⟩
  have lt : r.toNat < s.cps.toList.length := by
    have : s.cps.toList.length = s.length := rfl
    omega
  exact ⟨by omega, _, atI_at (k := r.toNat) (by omega) (List.getElem?_eq_getElem lt), h _ (List.getElem_mem lt)⟩
theorem mapM_s : ∀ l : List Str, (l.map D.str).mapM D.flat = some (l.map V.str)
  | [] => rfl
  | s :: l => by
    rw [List.map_cons, List.mapM_cons, mapM_s l]
    rfl
theorem inV_s (s : Str) : ∀ l : List Str, inV (.str s) (l.map V.str) = decide (s ∈ l)
  | [] => rfl
  | t :: l => by
    have ih := inV_s s l
    unfold inV at ih ⊢
    rw [List.map_cons, List.any_cons, ih, Bool.eq_iff_iff]
    simp only [Bool.or_eq_true, decide_eq_true_eq, List.mem_cons]
    constructor
    · rintro (h | h)
      · exact .inl (by have := h; simp [eqV] at this; exact this.symm)
      · exact .inr h
    · rintro (h | h)
      · exact .inl (by subst h; simp [eqV])
      · exact .inr h
theorem in_s {s : Str} {l : List Str} {neg : Bool} (h : q (.bl (if neg then !decide (s ∈ l) else decide (s ∈ l)))) : inD neg (.str s) (.lst (l.map .str)) q x := by
  unfold inD
  exact ⟨.str s, l.map V.str, rfl, mapM_s l, by rw [inV_s]; exact h⟩
theorem in_t {s : Str} {l : List Str} {neg : Bool} (h : q (.bl (if neg then !decide (s ∈ l) else decide (s ∈ l)))) : inD neg (.str s) (.tup (l.map .str)) q x := by
  unfold inD
  exact ⟨.str s, l.map V.str, rfl, mapM_s l, by rw [inV_s]; exact h⟩
theorem pigeon {l : List Str} (h : l.length ≤ 3) : ∃ z ∈ (["a", "b", "c", "d"] : List Str), z ∉ l := by
  refine Classical.byContradiction fun n => ?_
  have m : ∀ z ∈ (["a", "b", "c", "d"] : List Str), z ∈ l := fun z hz => Classical.byContradiction fun c => n ⟨z, hz, c⟩
  have ha := m "a" (by simp)
  have hb := m "b" (by simp)
  have hc := m "c" (by simp)
  have hd := m "d" (by simp)
  have b1 : ("b" : Str) ∈ l.erase "a" := (List.mem_erase_of_ne (by decide +kernel)).mpr hb
  have c1 : ("c" : Str) ∈ (l.erase "a").erase "b" := (List.mem_erase_of_ne (by decide +kernel)).mpr ((List.mem_erase_of_ne (by decide +kernel)).mpr hc)
  have d1 : ("d" : Str) ∈ ((l.erase "a").erase "b").erase "c" := (List.mem_erase_of_ne (by decide +kernel)).mpr ((List.mem_erase_of_ne (by decide +kernel)).mpr ((List.mem_erase_of_ne (by decide +kernel)).mpr hd))
  have l1 := List.length_erase_of_mem ha
  have l2 := List.length_erase_of_mem b1
  have l3 := List.length_erase_of_mem c1
  have := List.length_pos_of_mem d1
  omega
theorem let_nm : ∀ c ∈ ("abcdefghijklmnopqrstuvwxyz" : Str).cps.toList, letter c := by
  unfold letter
  decide +kernel
def keptS : List Str := ["if", "end", "else", "not", "base", "sum", "last", "many", "root", "let", "same", "stop"]
theorem kept_nm : ∀ s ∈ keptS, isNm s := by
  unfold isNm letter keptS
  decide +kernel
theorem abcd_nm : ∀ s ∈ (["a", "b", "c", "d"] : List Str), isNm s := by
  unfold isNm letter
  decide +kernel
theorem nm_of {cs : List Nat} (h0 : 1 ≤ cs.length) (h1 : cs.length ≤ 4) (h : ∀ c ∈ cs, letter c) : isNm (tx cs) := ⟨⟨by rw [tx_len]; exact h0, by rw [tx_len]; exact h1⟩, h⟩
theorem join_0 (cs : List Nat) : Txt.join "" (cs.map fun c => (⟨#[c]⟩ : Str)) = tx cs := by
  rw [show ("" : Str) = tx [] from by decide +kernel, show (cs.map fun c => (⟨#[c]⟩ : Str)) = (cs.map fun c => [c]).map tx by rw [List.map_map]; rfl, tx_join]
  congr 1
  induction cs with
  | nil => rfl
  | cons c cs ih =>
    cases cs with
    | nil => rfl
    | cons d cs =>
      rw [List.map_cons] at ih
      show [c] ++ [] ++ joinL [] ([d] :: List.map (fun c => [c]) cs) = _
      rw [ih]
      rfl
theorem words_nd {m : Nat} (hm : m ≤ 4) (h : ∀ ns : List Str, ns.length = m → (∀ n ∈ ns, isNm n) → ns.Nodup → q (.lst (ns.map .str))) : wp__law_words [.int (m : Nat)] q x := by
  unfold wp__law_words
  refine ⟨rfl, ?_⟩
  walk_at "w"
  refine ⟨by walk_at "z", ?_⟩
  refine ⟨by walk_at "z", ?_⟩
  refine ⟨Nat.le_of_ble_eq_true rfl, ?_⟩
  dsimp only
  generalize ea : Sl.va (.str "abcdefghijklmnopqrstuvwxyz") = va
  refine seq_by (fun env => ∃ (ns : List Str) (z1 z2 z3 z4 : Sl), ((ns.length = m ∧ ns.Nodup) ∧ ∀ n ∈ ns, isNm n) ∧ env = [.dl, .va (.int (m : Nat)), va, .va (.lst (keptS.map .str)), .ow (ns.map .str), z1, z2, z3, z4]) (fun e' _ _ _ _ hnx => ?_) ?_
  · walk_at "w"
    refine ⟨⟨by omega, by omega⟩, ?_⟩
    dsimp only
    rw [Int.toNat_natCast]
    refine for_range (fun k env => ∃ (ns : List Str) (z1 z2 z3 z4 : Sl), ((ns.length = k ∧ ns.Nodup) ∧ ∀ n ∈ ns, isNm n) ∧ env = [.dl, .va (.int (m : Nat)), va, .va (.lst (keptS.map .str)), .ow (ns.map .str), z1, z2, z3, z4]) ⟨[], _, _, _, _, ⟨⟨rfl, .nil⟩, fun n h => by cases h⟩, rfl⟩ ?_ (fun env h => hnx env h)
    rintro k _ e2 hk ⟨ns, z1, z2, z3, z4, ⟨⟨hl, hnd⟩, hns⟩, rfl⟩ _ _ _ _ hN
    have hk : k < m := hk
    refine seq2 (fun env => ∃ (w : Str) (z1 z3 z4 : Sl), isNm w ∧ env = [.dl, .va (.int (m : Nat)), va, .va (.lst (keptS.map .str)), .ow (ns.map .str), z1, .va (.str w), z3, z4]) (fun e' _ _ _ _ hnx => ?_) ?_
    · subst ea
      walk_at "w"
      refine ⟨by decide, sm_of (by decide) (by decide), fun r r0 r1 => ?_⟩
      walk_at "w"
      refine ⟨⟨by omega, by omega⟩, ?_⟩
      rw [rgD_map]
      refine lc_any (fun d => ∃ c : Nat, letter c ∧ d = .str ⟨#[c]⟩) _ [] (fun i hi kk n hk => ?_) (by simp; omega) (fun d h => by cases h) fun ds hds hd => ?_
      · walk_at "w"
        refine pick_s (by decide +kernel) (by decide +kernel) fun c hc => hk _ ⟨c, let_nm c hc, rfl⟩
      obtain ⟨cs, rfl, hcs⟩ : ∃ cs : List Nat, ds = cs.map (fun c => D.str ⟨#[c]⟩) ∧ ∀ c ∈ cs, letter c := by
        clear hds
        induction ds with
        | nil => exact ⟨[], rfl, fun c h => by cases h⟩
        | cons d ds ih =>
          obtain ⟨cs, e, h⟩ := ih fun z hz => hd z (List.mem_cons_of_mem _ hz)
          obtain ⟨c, hc, rfl⟩ := hd d (List.mem_cons_self ..)
          refine ⟨c :: cs, by rw [e]; rfl, fun y hy => ?_⟩
          rcases List.mem_cons.mp hy with rfl | hy
          · exact hc
          · exact h y hy
      have hn : cs.length = (1 + r).toNat := by
        rw [List.length_map, List.length_nil, List.length_range] at hds
        omega
      walk_at "w"
      refine ⟨cs.map fun c => (⟨#[c]⟩ : Str), .inl (by rw [List.map_map]; rfl), ?_, ?_⟩
      · rw [List.map_map, List.length_map]
        have : ((cs.map ((fun y : Str => y.length) ∘ fun c => (⟨#[c]⟩ : Str))).sum : Nat) ≤ (cs.map ((fun y : Str => y.length) ∘ fun c => (⟨#[c]⟩ : Str))).length * 1 := sum_le fun y hy => by
          obtain ⟨c, _, rfl⟩ := List.mem_map.mp hy
          exact Nat.le_refl _
        rw [List.length_map] at this
        rw [show ("" : Str).length = 0 from by decide +kernel]
        omega
      rw [join_0]
      have nm : isNm (tx cs) := nm_of (by omega) (by omega) hcs
      walk_at "w"
      refine ⟨by decide, sm_of (by decide) (by decide), fun r2 r20 r21 => ?_⟩
      walk_at "w"
      refine iteB_by (fun c => ?_) (fun c => ?_)
      · walk_at "w"
        refine pick_ok (by decide +kernel) (by decide +kernel) fun d hd => ?_
        obtain ⟨s, hs, rfl⟩ := List.mem_map.mp hd
        exact hnx _ ⟨s, _, _, _, kept_nm s hs, rfl⟩
      · exact hnx _ ⟨_, _, _, _, nm, rfl⟩
    rintro _ ⟨w, y1, y3, y4, hw, rfl⟩
    walk_at "w"
    refine ⟨by walk_at "z", ?_⟩
    rw [show [D.str w, D.str "a", D.str "b", D.str "c", D.str "d"] = ([w, "a", "b", "c", "d"] : List Str).map D.str from rfl]
    generalize hL : ([w, "a", "b", "c", "d"] : List Str) = L
    walk_at "w"
    refine lc_filter (φ := D.str) (fun s => !decide (s ∈ ns)) D.str L [] (fun s hs kk n h1 h2 => ?_) (by subst hL; simp) ?_
    · walk_at "w"
      refine in_s ?_
      rw [if_pos rfl]
      exact iteB_by h1 h2
    rw [List.nil_append]
    subst hL
    obtain ⟨z, hz, hz2⟩ := pigeon (l := ns) (by omega)
    have hm : z ∈ ([w, "a", "b", "c", "d"] : List Str).filter fun s => !decide (s ∈ ns) := List.mem_filter.mpr ⟨List.mem_cons_of_mem _ hz, by simp [hz2]⟩
    have hall : ∀ y ∈ ([w, "a", "b", "c", "d"] : List Str).filter (fun s => !decide (s ∈ ns)), isNm y := fun y hy => by
      rcases List.mem_cons.mp (List.mem_filter.mp hy).1 with rfl | h
      · exact hw
      · exact abcd_nm y h
    have hni : ∀ y ∈ ([w, "a", "b", "c", "d"] : List Str).filter (fun s => !decide (s ∈ ns)), y ∉ ns := fun y hy => by simpa using (List.mem_filter.mp hy).2
    generalize ([w, "a", "b", "c", "d"] : List Str).filter (fun s => !decide (s ∈ ns)) = fs at hm hall hni ⊢
    cases fs with
    | nil => cases hm
    | cons f fs =>
      walk_at "w"
      refine ⟨.str f, atI_at (k := 0) rfl (by simp), rfl, ?_⟩
      refine ⟨by rw [List.length_map]; omega, hN _ ⟨ns ++ [f], _, _, _, _, ⟨⟨by simp [hl], List.nodup_append.mpr ⟨hnd, List.nodup_cons.mpr ⟨List.not_mem_nil, .nil⟩, fun a ha b hb e => hni f (List.mem_cons_self ..) (by rw [List.mem_singleton.mp hb] at e; rw [← e]; exact ha)⟩⟩, fun n hn => ?_⟩, by rw [List.map_append]; rfl⟩⟩
      rcases List.mem_append.mp hn with hn | hn
      · exact hns n hn
      · rw [List.mem_singleton.mp hn]
        exact hall f (List.mem_cons_self ..)
  rintro _ ⟨ns, z1, z2, z3, z4, ⟨⟨hl, hnd⟩, hns⟩, rfl⟩
  walk_at "w"
  exact h ns hl hns hnd
theorem words_ok {m : Nat} (hm : m ≤ 4) (h : ∀ ns : List Str, ns.length = m → (∀ n ∈ ns, isNm n) → q (.lst (ns.map .str))) : wp__law_words [.int (m : Nat)] q x := words_nd hm fun ns hl hn _ => h ns hl hn
def kindK : List Str := ["number", "base", "**", "figure", "first", "last", "let", "turned", "least", "greatest", "sum", "many", "root", "+", "-", "*", "//", "rest", "joined", "common", "lesser"]
def kindD : List Str := ["k", "", "xk", "kx", "kx", "kx", "x", "x", "x", "x", "x", "x", "x", "xy", "xy", "xy", "xy", "xy", "xy", "xy", "xy"]
theorem kinds_v (k : q (.dic (kindK.map .inr) (kindD.map .str))) : wp__law_kinds [] q x := by
  unfold wp__law_kinds
  refine ⟨rfl, ?_⟩
  walk_at "w"
  refine ⟨rfl, by decide, ?_⟩
  walk_at "w"
  refine ⟨by walk_at "z", ?_⟩
  repeat (walk_at "w"; refine ⟨Nat.le_of_ble_eq_true rfl, ?_⟩)
  walk_at "w"
  exact k
theorem kind_of : ∀ e ∈ kindK, ∃ ks, (e, ks) ∈ kindS ∧ valD (kindK.map .inr) (kindD.map .str) (.inr e) = some (.str (tx ks)) := by
  intro e h
  simp only [kindK, List.mem_cons, List.not_mem_nil, or_false] at h
  rcases h with rfl | rfl | rfl | rfl | rfl | rfl | rfl | rfl | rfl | rfl | rfl | rfl | rfl | rfl | rfl | rfl | rfl | rfl | rfl | rfl | rfl
  · exact ⟨[107], by decide +kernel, rfl⟩
  · exact ⟨[], by decide +kernel, rfl⟩
  · exact ⟨[120, 107], by decide +kernel, rfl⟩
  · exact ⟨[107, 120], by decide +kernel, rfl⟩
  · exact ⟨[107, 120], by decide +kernel, rfl⟩
  · exact ⟨[107, 120], by decide +kernel, rfl⟩
  · exact ⟨[120], by decide +kernel, rfl⟩
  · exact ⟨[120], by decide +kernel, rfl⟩
  · exact ⟨[120], by decide +kernel, rfl⟩
  · exact ⟨[120], by decide +kernel, rfl⟩
  · exact ⟨[120], by decide +kernel, rfl⟩
  · exact ⟨[120], by decide +kernel, rfl⟩
  · exact ⟨[120], by decide +kernel, rfl⟩
  · exact ⟨[120, 121], by decide +kernel, rfl⟩
  · exact ⟨[120, 121], by decide +kernel, rfl⟩
  · exact ⟨[120, 121], by decide +kernel, rfl⟩
  · exact ⟨[120, 121], by decide +kernel, rfl⟩
  · exact ⟨[120, 121], by decide +kernel, rfl⟩
  · exact ⟨[120, 121], by decide +kernel, rfl⟩
  · exact ⟨[120, 121], by decide +kernel, rfl⟩
  · exact ⟨[120, 121], by decide +kernel, rfl⟩
theorem names_pick {ns : List Str} (h0 : ns ≠ []) (hl : ns.length ≤ 100) (hn : ∀ n ∈ ns, isNm n) (h : ∀ s, isNm s → q (.str s)) : wp__law_pick [.lst (ns.map .str)] q x :=
  pick_ok (by simpa using h0) (by rw [List.length_map]; omega) fun d hd => by
    obtain ⟨s, hs, rfl⟩ := List.mem_map.mp hd
    exact h s (hn s hs)
theorem ints_of {ds : List D} {P : Int → Prop} (h : ∀ d ∈ ds, ∃ i : Int, P i ∧ d = .int i) : ∃ is : List Int, ds = is.map D.int ∧ ∀ i ∈ is, P i := by
  induction ds with
  | nil => exact ⟨[], rfl, fun c h => by cases h⟩
  | cons d ds ih =>
    obtain ⟨cs, e, h2⟩ := ih fun z hz => h z (List.mem_cons_of_mem _ hz)
    obtain ⟨c, hc, rfl⟩ := h d (List.mem_cons_self ..)
    refine ⟨c :: cs, by rw [e]; rfl, fun y hy => ?_⟩
    rcases List.mem_cons.mp hy with rfl | hy
    · exact hc
    · exact h2 y hy
theorem fitL_snoc : ∀ {ks : List Nat} {as : List Ar} {k : Nat} {a : Ar}, fitL ks as → fitA k a → fitL (ks ++ [k]) (as ++ [a])
  | [], [], k, a, _, h => ⟨h, trivial⟩
  | c :: ks, b :: as, k, a, h, h2 => ⟨h.1, fitL_snoc h.2 h2⟩
theorem strs_of {ds : List D} {P : Str → Prop} (h : ∀ d ∈ ds, ∃ i : Str, P i ∧ d = .str i) : ∃ is : List Str, ds = is.map D.str ∧ ∀ i ∈ is, P i := by
  induction ds with
  | nil => exact ⟨[], rfl, fun c h => by cases h⟩
  | cons d ds ih =>
    obtain ⟨cs, e, h2⟩ := ih fun z hz => h z (List.mem_cons_of_mem _ hz)
    obtain ⟨c, hc, rfl⟩ := h d (List.mem_cons_self ..)
    refine ⟨c :: cs, by rw [e]; rfl, fun y hy => ?_⟩
    rcases List.mem_cons.mp hy with rfl | hy
    · exact hc
    · exact h2 y hy
theorem put_ok {ns : List Str} {most : Int} (n0 : ns ≠ []) (nl : ns.length ≤ 100) (hn : ∀ n ∈ ns, isNm n) (m0 : 0 ≤ most) (m1 : most < 1000) (h : ∀ n e as, isNm n → Fit e as → q (MR.put n e as).d) : wp__law_put [.lst (ns.map .str), .int most] q x := by
  unfold wp__law_put
  refine ⟨rfl, ?_⟩
  generalize eK : kindK.map (Sum.inr (α := Int)) = K
  generalize eD : kindD.map D.str = KD
  refine seq2 (fun env => ∃ (e : Str) (z5 z6 z7 z8 z9 : Sl), (e = "figures" ∨ e ∈ kindK) ∧ env = [.dl, .va (.lst (ns.map .str)), .va (.int most), .va (.dic K KD), .va (.str e), z5, z6, z7, z8, z9]) (fun e' _ _ _ _ hnx => ?_) ?_
  · walk_at "w"
    refine kinds_v ?_
    rw [eK, eD]
    walk_at "w"
    rw [show K.map dOf = kindK.map D.str by rw [← eK, List.map_map]; rfl]
    refine lc_map (φ := D.str) (fun s => .str s) kindK (fun s hs kk n hk => ?_) (by decide) ?_
    · walk_at "w"
      exact hk
    generalize eL : kindK.map (fun s => D.str s) = L
    walk_at "w"
    refine ⟨kindK, by rw [← eL], by decide, fun ks hp _ => ?_⟩
    clear eL L
    generalize eT : ([.str "figures", .str "figures", .str "+", .str "-", .str "*", .str "number"] : List D) = T
    have hT : ∀ d ∈ T, ∃ e : Str, d = .str e ∧ (e = "figures" ∨ e ∈ kindK) := by
      subst eT
      intro d hd
      simp only [List.mem_cons, List.not_mem_nil, or_false] at hd
      rcases hd with rfl | rfl | rfl | rfl | rfl | rfl
      · exact ⟨_, rfl, .inl rfl⟩
      · exact ⟨_, rfl, .inl rfl⟩
      · exact ⟨_, rfl, .inr (by decide +kernel)⟩
      · exact ⟨_, rfl, .inr (by decide +kernel)⟩
      · exact ⟨_, rfl, .inr (by decide +kernel)⟩
      · exact ⟨_, rfl, .inr (by decide +kernel)⟩
    have lT : T.length = 6 := by rw [← eT]; rfl
    have lk : ks.length = 21 := hp.length_eq
    walk_at "w"
    refine ⟨by walk_at "z", ?_⟩
    walk_at "w"
    rw [eT]
    refine ⟨by rw [List.length_map]; omega, ?_⟩
    walk_at "w"
    refine pick_ok (by simp [← eT]) (by simp; omega) fun d hd => ?_
    have : ∃ e : Str, d = .str e ∧ (e = "figures" ∨ e ∈ kindK) := by
      rcases List.mem_append.mp hd with hd | hd
      · obtain ⟨e, he, rfl⟩ := List.mem_map.mp hd
        exact ⟨e, rfl, .inr (hp.mem_iff.mp he)⟩
      · exact hT d hd
    obtain ⟨e, rfl, he⟩ := this
    exact hnx _ ⟨e, _, _, _, _, _, he, rfl⟩
  rintro _ ⟨e, z5, z6, z7, z8, z9, he, rfl⟩
  refine seq_by (fun env => ∃ (as : List Ar) (z6 z7 z8 z9 : Sl), Fit e as ∧ env = [.dl, .va (.lst (ns.map .str)), .va (.int most), .va (.dic K KD), .va (.str e), .ow (as.map Ar.d), z6, z7, z8, z9]) (fun e' _ _ _ _ hnx => ?_) ?_
  · walk_at "w"
    refine iteB_by (fun c => ?_) (fun c => ?_)
    · have c : e = "figures" := beq_iff_eq.mp c
      subst c
      walk_at "w"
      refine ⟨by decide, sm_of (by decide) (by decide), fun r r0 r1 => ?_⟩
      walk_at "w"
      refine ⟨⟨by omega, by omega⟩, ?_⟩
      rw [rgD_map]
      refine lc_any (fun d => ∃ i : Int, (0 ≤ i ∧ i ≤ 1000) ∧ d = .int i) _ [] (fun i hi kk n hk => ?_) (by simp; omega) (fun d h => by cases h) fun ds hds hd => ?_
      · walk_at "w"
        refine ⟨by walk_at "z", ?_⟩
        walk_at "w"
        refine ⟨by decide, sm_of (by decide) (by decide), fun r2 r20 r21 => ?_⟩
        obtain ⟨m, hm, m1⟩ : ∃ m : Int, atI [D.int 3, .int 10, .int 36] r2 = some (.int m) ∧ (m = 3 ∨ m = 10 ∨ m = 36) := by
          have : r2 = 0 ∨ r2 = 1 ∨ r2 = 2 := by omega
          rcases this with rfl | rfl | rfl <;> exact ⟨_, rfl, by decide⟩
        refine ⟨_, hm, ?_⟩
        walk_at "w"
        refine ⟨by omega, sm_of (by omega) (by omega), fun y y0 y1 => hk _ ⟨y, ⟨y0, by omega⟩, rfl⟩⟩
      obtain ⟨is, rfl, his⟩ := ints_of hd
      rw [List.length_map, List.length_nil, List.length_range] at hds
      refine ⟨by simp, hnx _ ⟨is.map Ar.no, _, _, _, _, .inl ⟨rfl, ?_, by rw [List.length_map]; omega, fun a ha => ?_⟩, by rw [List.map_map]; rfl⟩⟩
      · intro z
        rw [List.map_eq_nil_iff.mp z] at hds
        simp at hds
        omega
      · obtain ⟨i, hi, rfl⟩ := List.mem_map.mp ha
        exact ⟨rfl, his i hi⟩
    · have c : e ≠ "figures" := ne_of_beq_false c
      obtain ⟨ks, hk, hv⟩ := kind_of e (he.resolve_left c)
      rw [eK, eD] at hv
      obtain ⟨_, k2⟩ := kind_len hk
      walk_at "w"
      refine iteB_by (fun c => ?_) (fun c => ?_)
      · have c : e = "**" := beq_iff_eq.mp c
        subst c
        walk_at "w"
        refine names_pick n0 nl hn fun s hs => ?_
        walk_at "w"
        refine ⟨by decide, sm_of (by decide) (by decide), fun r r0 r1 => ?_⟩
        walk_at "w"
        refine ⟨by walk_at "z", ?_⟩
        refine ⟨by simp, hnx _ ⟨[.nm s, .no r], _, _, _, _, .inr ⟨[120, 107], by decide +kernel, ⟨by decide, hs⟩, ⟨rfl, r0, by omega⟩, trivial⟩, rfl⟩⟩
      · walk_at "w"
        refine ⟨by walk_at "z", ?_⟩
        refine ⟨by simp, ?_⟩
        walk_at "w"
        rw [hv]
        walk_at "w"
        rw [show chD (tx ks) = ks.map (fun c => D.str ⟨#[c]⟩) from by unfold chD; rw [tx_cps]]
        refine for_map (φ := fun c : Nat => D.str ⟨#[c]⟩) (fun pre env => ∃ (as : List Ar) (z6 z7 z8 z9 : Sl), fitL pre as ∧ env = [.dl, .va (.lst (ns.map .str)), .va (.int most), .va (.dic K KD), .va (.str e), .ow (as.map Ar.d), z6, z7, z8, z9]) ks ⟨[], _, _, _, _, trivial, rfl⟩ ?_ (fun env h => ?_)
        · rintro pre k suf _ e2 hx ⟨as, y6, y7, y8, y9, hf, rfl⟩ _ _ _ _ hN
          have la := (fitL_len hf).1
          have lp : pre.length ≤ 2 := by
            rw [hx] at k2
            simp at k2
            omega
          refine seq_by (fun env => ∃ (i : Int) (z8 z9 : Sl), (0 ≤ i ∧ i ≤ 1000) ∧ env = [.dl, .va (.lst (ns.map .str)), .va (.int most), .va (.dic K KD), .va (.str e), .ow (as.map Ar.d), .va (.str ⟨#[k]⟩), .va (.int i), z8, z9]) (fun e' _ _ _ _ hnx => ?_) ?_
          · walk_at "w"
            refine ⟨by walk_at "z", ?_⟩
            refine in_t (l := ["figure", "first", "last"]) ?_
            refine iteB_by (fun c => ?_) (fun c => ?_)
            · walk_at "w"
              exact ⟨by decide, sm_of (by decide) (by decide), fun r r0 r1 => hnx _ ⟨r, _, _, ⟨r0, by omega⟩, rfl⟩⟩
            · walk_at "w"
              exact ⟨by omega, sm_of (by omega) (by omega), fun r r0 r1 => hnx _ ⟨r, _, _, ⟨r0, by omega⟩, rfl⟩⟩
          rintro _ ⟨i, z8, z9, hi, rfl⟩
          walk_at "w"
          rw [one_k]
          by_cases c : k = 107
          · rw [decide_eq_true c]
            walk_at "w"
            exact ⟨by rw [List.length_map]; omega, hN _ ⟨as ++ [.no i], _, _, _, _, fitL_snoc (a := .no i) hf ⟨c, hi⟩, by rw [List.map_append]; rfl⟩⟩
          · rw [decide_eq_false c]
            walk_at "w"
            refine names_pick n0 nl hn fun s hs => ?_
            walk_at "w"
            exact ⟨by rw [List.length_map]; omega, hN _ ⟨as ++ [.nm s], _, _, _, _, fitL_snoc (a := .nm s) hf ⟨c, hs⟩, by rw [List.map_append]; rfl⟩⟩
        · obtain ⟨as, z6, z7, z8, z9, hf, rfl⟩ := h
          exact hnx _ ⟨as, _, _, _, _, .inr ⟨ks, hk, hf⟩, rfl⟩
  rintro _ ⟨as, z6, z7, z8, z9, hf, rfl⟩
  walk_at "w"
  refine names_pick n0 nl hn fun s hs => ?_
  walk_at "w"
  exact ⟨by walk_at "z", h s e as hs hf⟩
theorem ask_ok {ns : List Str} (n0 : ns ≠ []) (nl : ns.length ≤ 100) (hn : ∀ n ∈ ns, isNm n) : ∀ (n : Nat) (k : Nat) {q : D → Prop} {x : DX → Prop}, k < n → k ≤ 900 → (∀ t : MT, OkT t → t.dep ≤ k + 1 → q t.d) → wp__law_ask n [.lst (ns.map .str), .int (k : Nat)] q x
  | 0, k, q, x, hk, _, _ => by omega
  | n + 1, k, q, x, hk, k9, h => by
    rw [wps__law_ask]
    refine ⟨rfl, ?_⟩
    refine seq_by (fun env => env = [.dl, .va (.lst (ns.map .str)), .va (.int (k : Nat)), .un, .un, .un]) (fun e' e1 _ _ _ hnx => ?_) ?_
    · walk_at "w"
      refine iteB_by (fun c => ?_) (fun c => ?_)
      · have c : (k : Int) > 0 := of_decide_eq_true c
        walk_at "w"
        refine ⟨by decide, sm_of (by decide) (by decide), fun r r0 r1 => ?_⟩
        refine iteB_by (fun c2 => ?_) (fun c2 => ?_)
        · walk_at "w"
          show wp__law_ask n [_, .int (((k : Nat) : Int) - 1)] _ _
          rw [show ((k : Nat) : Int) - 1 = ((k - 1 : Nat) : Int) by omega]
          refine ask_ok n0 nl hn n (k - 1) (by omega) (by omega) fun t ht hd => ?_
          walk_at "w"
          rw [e1]
          exact ⟨by walk_at "z", h (.nt t) ht (by rw [MT.dep]; omega)⟩
        · exact hnx _ rfl
      · exact hnx _ rfl
    rintro _ rfl
    refine seq_by (fun env => ∃ (w : Str) (j : Nat), (w, j) ∈ askS ∧ env = [.dl, .va (.lst (ns.map .str)), .va (.int (k : Nat)), .va (.str w), .un, .un]) (fun e' e1 _ _ _ hnx => ?_) ?_
    · walk_at "w"
      refine ⟨by walk_at "z", ?_⟩
      refine pick_ok (by simp) (by simp) fun d hd => ?_
      simp only [List.mem_cons, List.not_mem_nil, or_false] at hd
      rcases hd with rfl | rfl | rfl | rfl | rfl
      · exact hnx _ ⟨_, 2, by decide +kernel, rfl⟩
      · exact hnx _ ⟨_, 2, by decide +kernel, rfl⟩
      · exact hnx _ ⟨_, 2, by decide +kernel, rfl⟩
      · exact hnx _ ⟨_, 1, by decide +kernel, rfl⟩
      · exact hnx _ ⟨_, 1, by decide +kernel, rfl⟩
    rintro _ ⟨w, j, hw, rfl⟩
    have hj : (1 : Int) + (if decide (w ∈ (["same", "less", "divides"] : List Str)) then 1 else 0) = (j : Nat) := by
      have : ∀ p ∈ askS, (1 : Int) + (if decide (p.1 ∈ (["same", "less", "divides"] : List Str)) then 1 else 0) = (p.2 : Nat) := by decide +kernel
      exact this _ hw
    obtain ⟨w1, w2, w3⟩ := ask_word hw
    walk_at "w"
    refine ⟨by walk_at "z", ?_⟩
    refine in_t (l := ["same", "less", "divides"]) ?_
    walk_at "w"
    rw [if_neg Bool.false_ne_true, hj]
    refine ⟨⟨by omega, by omega⟩, ?_⟩
    rw [rgD_map]
    refine lc_any (fun d => ∃ s : Str, isNm s ∧ d = .str s) _ [] (fun i hi kk m hk => ?_) (by simp; omega) (fun d h => by cases h) fun ds hds hd => ?_
    · walk_at "w"
      exact names_pick n0 nl hn fun s hs => hk _ ⟨s, hs, rfl⟩
    obtain ⟨xs, rfl, hxs⟩ := strs_of hd
    rw [List.length_map, List.length_nil, List.length_range, Nat.zero_add] at hds
    have hx : xs.length = j := by omega
    walk_at "w"
    refine ⟨by walk_at "z", ?_⟩
    have := h (.ask w xs) ⟨by rw [hx]; exact hw, hxs⟩ (by rw [MT.dep]; omega)
    exact this
theorem sum_cnt : ∀ rs : List MR, (rs.map fun r => ((r.cnt : Nat) : Int)).sum = (cntM rs : Nat)
  | [] => rfl
  | r :: rs => by
    rw [List.map_cons, List.sum_cons, sum_cnt rs, cntM]
    omega
theorem count_v : ∀ (n : Nat) (r : MR) {q : D → Prop} {x : DX → Prop}, r.dep ≤ n → r.cnt ≤ 1000 → q (.int (r.cnt : Nat)) → wp__law_count n [r.d] q x
  | 0, r, q, x, h, hc, k => by have := dep_pos r; omega
  | n + 1, .put a e as, q, x, h, hc, k => by
    rw [wps__law_count]
    refine ⟨rfl, ?_⟩
    walk_at "w"
    walk_at "i"
    exact k
  | n + 1, .stop, q, x, h, hc, k => by
    rw [wps__law_count]
    refine ⟨rfl, ?_⟩
    walk_at "w"
    walk_at "i"
    exact k
  | n + 1, .ifs t a b, q, x, h, hc, k => by
    rw [MR.dep] at h
    rw [MR.cnt] at hc k
    have la := cntM_len a
    have lb := cntM_len b
    rw [wps__law_count]
    refine ⟨rfl, ?_⟩
    walk_at "w"
    walk_at "i"
    rw [dMs_map, dMs_map]
    refine ⟨by simp; omega, ?_⟩
    rw [← List.map_append]
    walk_at "w"
    refine lc_map (φ := MR.d) (fun r => .int (r.cnt : Nat)) (a ++ b) (fun r hr kk m hk => ?_) (by simp; omega) ?_
    · walk_at "w"
      have : r.dep ≤ n ∧ r.cnt ≤ 1000 := by
        rcases List.mem_append.mp hr with hr | hr
        · have := dep_mem hr
          have := cnt_mem hr
          omega
        · have := dep_mem hr
          have := cnt_mem hr
          omega
      exact count_v n r this.1 this.2 hk
    walk_at "w"
    refine ⟨(a ++ b).map fun r => ((r.cnt : Nat) : Int), .inl (by rw [List.map_map]; rfl), ?_⟩
    rw [sum_cnt, cntM_app]
    walk_at "w"
    have e : (1 : Int) + ((cntM a + cntM b : Nat) : Int) = ((1 + (cntM a + cntM b) : Nat) : Int) := by omega
    rw [← e] at k
    exact k
  | n + 1, .times c a, q, x, h, hc, k => by
    rw [MR.dep] at h
    rw [MR.cnt] at hc k
    have la := cntM_len a
    rw [wps__law_count]
    refine ⟨rfl, ?_⟩
    walk_at "w"
    walk_at "i"
    rw [dMs_map]
    refine lc_map (φ := MR.d) (fun r => .int (r.cnt : Nat)) a (fun r hr kk m hk => ?_) (by omega) ?_
    · walk_at "w"
      have := dep_mem hr
      have := cnt_mem hr
      exact count_v n r (by omega) (by omega) hk
    walk_at "w"
    refine ⟨a.map fun r => ((r.cnt : Nat) : Int), .inl (by rw [List.map_map]; rfl), ?_⟩
    rw [sum_cnt]
    walk_at "w"
    have e : (1 : Int) + ((cntM a : Nat) : Int) = ((1 + cntM a : Nat) : Int) := by omega
    rw [← e] at k
    exact k
theorem ifs_by {c : DT} {a b : DS} {env : List Sl} {e : DEnds} (P : Prop) (h : ∀ q' : Bool → Prop, (P → q' true) → (¬ P → q' false) → c env q' (e.ex env)) (h1 : P → a env e) (h2 : ¬ P → b env e) : dIfS c a b env e := h (fun k => iteB k (a env e) (b env e)) h1 h2
theorem rows_ok {ns : List Str} {most : Int} (n0 : ns ≠ []) (nl : ns.length ≤ 100) (hn : ∀ n ∈ ns, isNm n) (m0 : 0 ≤ most) (m1 : most < 1000) : ∀ (n : Nat) (room down : Nat) {q : D → Prop} {x : DX → Prop}, down < n → down ≤ 7 → room ≤ 500 →
    (∀ rs : List MR, OkM rs → cntM rs ≤ room → depM rs ≤ down + 1 → q (.lst (rs.map MR.d))) → wp__law_rows n [.lst (ns.map .str), .int (room : Nat), .int (down : Nat), .int most] q x
  | 0, room, down, q, x, hd, _, _, _ => by omega
  | n + 1, room, down, q, x, hd, d7, r5, h => by
    rw [wps__law_rows]
    refine ⟨rfl, ?_⟩
    generalize ens : Sl.va (.lst (ns.map .str)) = vns
    walk_at "w"
    refine ⟨by walk_at "z", ?_⟩
    refine ⟨⟨by simp, by decide, rfl⟩, ?_⟩
    dsimp only
    refine seq_by (fun env => ∃ (rs : List MR) (z6 z7 z8 z9 z10 z11 z12 : Sl), (OkM rs ∧ cntM rs ≤ room ∧ depM rs ≤ down + 1) ∧ env = [.dl, vns, .va (.int (room : Nat)), .va (.int (down : Nat)), .va (.int most), .ow (rs.map MR.d), z6, z7, z8, z9, z10, z11, z12]) (fun e' _ _ _ _ hnx => ?_) ?_
    · refine ⟨fun m env => ∃ (rs : List MR) (z7 z8 z9 z10 z11 z12 : Sl), (OkM rs ∧ cntM rs + m ≤ room ∧ depM rs ≤ down + 1) ∧ env = [.dl, vns, .va (.int (room : Nat)), .va (.int (down : Nat)), .va (.int most), .ow (rs.map MR.d), .va (.int (m : Nat)), z7, z8, z9, z10, z11, z12], ⟨room, [], _, _, _, _, _, _, ⟨trivial, by rw [cntM]; omega, by rw [depM]; omega⟩, by rw [← ens]; rfl⟩, ?_⟩
      rintro m _ ⟨rs, z7, z8, z9, z10, z11, z12, ⟨ok, hc, hdp⟩, rfl⟩
      have out : e'.nx [.dl, vns, .va (.int (room : Nat)), .va (.int (down : Nat)), .va (.int most), .ow (rs.map MR.d), .va (.int (m : Nat)), z7, z8, z9, z10, z11, z12] := hnx _ ⟨rs, _, _, _, _, _, _, _, ⟨ok, by omega, hdp⟩, rfl⟩
      walk_at "w"
      refine iteB_by (fun c => ?_) (fun c => ?_)
      case refine_2 => exact out
      have c : (m : Int) > 0 := of_decide_eq_true c
      walk_at "w"
      refine ⟨by decide, sm_of (by decide) (by decide), fun r r0 r1 => ?_⟩
      refine iteB_by (fun c2 => ?_) (fun c2 => ?_)
      case refine_2 => exact out
      refine seq3 (fun env => ∃ (r : MR) (z7 z9 z10 z11 z12 : Sl), (OkR r ∧ r.cnt ≤ m ∧ r.dep ≤ down + 1) ∧ env = [.dl, vns, .va (.int (room : Nat)), .va (.int (down : Nat)), .va (.int most), .ow (rs.map MR.d), .va (.int (m : Nat)), z7, .va r.d, z9, z10, z11, z12]) (fun e2 _ _ _ _ hnx2 => ?_) ?_
      · refine seq2 (fun env => ∃ (f : Int) (pr : MR), (0 ≤ f ∧ f < 8) ∧ (OkR pr ∧ pr.cnt ≤ m ∧ pr.dep ≤ down + 1) ∧ env = [.dl, vns, .va (.int (room : Nat)), .va (.int (down : Nat)), .va (.int most), .ow (rs.map MR.d), .va (.int (m : Nat)), .va (.int f), .va pr.d, z9, z10, z11, z12]) (fun e3 _ _ _ _ hnx3 => ?_) ?_
        · walk_at "w"
          refine ⟨by decide, sm_of (by decide) (by decide), fun f f0 f1 => ?_⟩
          subst ens
          walk_at "w"
          refine put_ok n0 nl hn m0 m1 fun nm e as hnm hf => ?_
          have okp : OkR (.put nm e as) := by rw [OkR]; exact ⟨hnm, hf⟩
          exact hnx3 _ ⟨f, _, ⟨f0, f1⟩, ⟨okp, by rw [MR.cnt]; omega, by rw [MR.dep]; omega⟩, rfl⟩
        rintro _ ⟨f, pr, ⟨f0, f1⟩, ⟨p1, p2, p3⟩, rfl⟩
        have out2 : e2.nx [.dl, vns, .va (.int (room : Nat)), .va (.int (down : Nat)), .va (.int most), .ow (rs.map MR.d), .va (.int (m : Nat)), .va (.int f), .va pr.d, z9, z10, z11, z12] := hnx2 _ ⟨pr, _, _, _, _, _, ⟨p1, p2, p3⟩, rfl⟩
        refine ifs_by (f = 0 ∧ m < 4) (fun q' h1 h2 => ?_) (fun _ => ?_) (fun _ => ?_)
        · walk_at "w"
          refine iteB_by (fun c => ?_) (fun c => ?_)
          · have c : f = 0 := beq_iff_eq.mp c
            walk_at "w"
            by_cases c3 : m < 4
            · rw [decide_eq_true (show (m : Int) < 4 by omega)]
              exact h1 ⟨c, c3⟩
            · rw [decide_eq_false (show ¬ (m : Int) < 4 by omega)]
              exact h2 fun z => c3 z.2
          · have c : f ≠ 0 := ne_of_beq_false c
            exact h2 fun z => c z.1
        · walk_at "w"
          exact ⟨by walk_at "z", hnx2 _ ⟨.stop, _, _, _, _, _, ⟨by rw [OkR]; trivial, by rw [MR.cnt]; omega, by rw [MR.dep]; omega⟩, rfl⟩⟩
        · refine ifs_by (f < 3 ∧ 0 < down) (fun q' h1 h2 => ?_) (fun hb => ?_) (fun _ => out2)
          · walk_at "w"
            refine iteB_by (fun c => ?_) (fun c => ?_)
            · have c : f < 3 := of_decide_eq_true c
              walk_at "w"
              by_cases c3 : 0 < down
              · rw [decide_eq_true (show (down : Int) > 0 by omega)]
                exact h1 ⟨c, c3⟩
              · rw [decide_eq_false (show ¬ (down : Int) > 0 by omega)]
                exact h2 fun z => c3 z.2
            · have c : ¬ f < 3 := of_decide_eq_false c
              exact h2 fun z => c z.1
          refine seq2 (fun env => ∃ (as : List MR) (k : Nat), (OkM as ∧ depM as ≤ down ∧ 1 + cntM as + k = m) ∧ env = [.dl, vns, .va (.int (room : Nat)), .va (.int (down : Nat)), .va (.int most), .ow (rs.map MR.d), .va (.int (m : Nat)), .va (.int f), .va pr.d, .va (.tup (as.map MR.d)), .va (.int (k : Nat)), z11, z12]) (fun e3 _ _ _ _ hnx3 => ?_) ?_
          · subst ens
            walk_at "w"
            show wp__law_rows n [_, .int (((m : Nat) : Int) - 1), .int (((down : Nat) : Int) - 1), _] _ _
            rw [show ((m : Nat) : Int) - 1 = ((m - 1 : Nat) : Int) by omega, show ((down : Nat) : Int) - 1 = ((down - 1 : Nat) : Int) by omega]
            refine rows_ok n0 nl hn m0 m1 n (m - 1) (down - 1) (by omega) (by omega) (by omega) fun as oka ca da => ?_
            have la := cntM_len as
            walk_at "w"
            refine lc_map (φ := MR.d) (fun r => .int (r.cnt : Nat)) as (fun r hr kk k hk => ?_) (by omega) ?_
            · walk_at "w"
              have := dep_mem hr
              have := cnt_mem hr
              exact count_v 9 r (by omega) (by omega) hk
            walk_at "w"
            refine ⟨as.map fun r => ((r.cnt : Nat) : Int), .inl (by rw [List.map_map]; rfl), ?_⟩
            rw [sum_cnt]
            walk_at "w"
            exact hnx3 _ ⟨as, m - 1 - cntM as, ⟨oka, by omega, by omega⟩, by rw [show ((m - 1 - cntM as : Nat) : Int) = ((m : Nat) : Int) - 1 - ((cntM as : Nat) : Int) by omega]; rfl⟩
          rintro _ ⟨as, k, ⟨oka, da, hk⟩, rfl⟩
          refine seq_by (fun env => ∃ t : Int, (0 ≤ t ∧ t < 4) ∧ env = [.dl, vns, .va (.int (room : Nat)), .va (.int (down : Nat)), .va (.int most), .ow (rs.map MR.d), .va (.int (m : Nat)), .va (.int f), .va (MR.times t as).d, .va (.tup (as.map MR.d)), .va (.int (k : Nat)), z11, z12]) (fun e3 _ _ _ _ hnx3 => ?_) ?_
          · subst ens
            walk_at "w"
            refine ⟨by decide, sm_of (by decide) (by decide), fun t t0 t1 => ?_⟩
            walk_at "w"
            exact ⟨by walk_at "z", hnx3 _ ⟨t, ⟨t0, t1⟩, by rw [MR.d, dMs_map]; rfl⟩⟩
          rintro _ ⟨t, ⟨t0, t1⟩, rfl⟩
          have okt : OkR (.times t as) := by rw [OkR]; exact ⟨⟨t0, by omega⟩, oka⟩
          refine ifs_by (f < 2) (fun q' h1 h2 => ?_) (fun _ => ?_) (fun _ => hnx2 _ ⟨_, _, _, _, _, _, ⟨okt, by rw [MR.cnt]; omega, by rw [MR.dep]; omega⟩, rfl⟩)
          · walk_at "w"
            by_cases c3 : f < 2
            · rw [decide_eq_true c3]
              exact h1 c3
            · rw [decide_eq_false c3]
              exact h2 c3
          refine seq_by (fun env => ∃ t2 : MT, (OkT t2 ∧ t2.dep ≤ 3) ∧ env = [.dl, vns, .va (.int (room : Nat)), .va (.int (down : Nat)), .va (.int most), .ow (rs.map MR.d), .va (.int (m : Nat)), .va (.int f), .va (MR.times t as).d, .va (.tup (as.map MR.d)), .va (.int (k : Nat)), .va t2.d, z12]) (fun e3 _ _ _ _ hnx3 => ?_) ?_
          · subst ens
            walk_at "w"
            exact ask_ok n0 nl hn 9 2 (by decide) (by decide) fun t2 ht hd2 => hnx3 _ ⟨t2, ⟨ht, hd2⟩, rfl⟩
          rintro _ ⟨t2, ⟨ht, hd2⟩, rfl⟩
          subst ens
          generalize (MR.times t as).d = td
          walk_at "w"
          show wp__law_rows n [_, _, .int (((down : Nat) : Int) - 1), _] _ _
          rw [show ((down : Nat) : Int) - 1 = ((down - 1 : Nat) : Int) by omega]
          refine rows_ok n0 nl hn m0 m1 n k (down - 1) (by omega) (by omega) (by omega) fun bs okb cb db => ?_
          walk_at "w"
          refine ⟨by walk_at "z", hnx2 _ ⟨.ifs t2 as bs, _, _, _, _, _, ⟨by rw [OkR]; exact ⟨⟨ht, by omega⟩, oka, okb⟩, by rw [MR.cnt]; omega, by rw [MR.dep]; omega⟩, by rw [MR.d, dMs_map, dMs_map]; rfl⟩⟩
      rintro _ ⟨r, y7, y9, y10, y11, y12, ⟨r1, r2, r3⟩, rfl⟩
      have lr := cntM_len rs
      walk_at "w"
      refine ⟨by rw [List.length_map]; omega, ?_⟩
      walk_at "w"
      refine count_v 9 r (by omega) (by omega) ?_
      have := cnt_pos r
      refine ⟨m - r.cnt, by omega, rs ++ [r], y7, .va r.d, y9, y10, y11, y12, ⟨okM_app ok ⟨r1, trivial⟩, by rw [cntM_app, cntM, cntM]; omega, by rw [depM_app, depM, depM]; omega⟩, ?_⟩
      rw [List.map_append, show ((m - r.cnt : Nat) : Int) = (m : Int) - (r.cnt : Nat) by omega]
      rfl
    rintro _ ⟨rs, z6, z7, z8, z9, z10, z11, z12, ⟨ok, hc, hdp⟩, rfl⟩
    walk_at "w"
    exact h rs ok hc hdp
theorem ask_text_v : ∀ (n : Nat) (t : MT) {q : D → Prop} {x : DX → Prop}, OkT t → t.dep ≤ n → t.dep ≤ 20 → q (.str t.text) → wp__law_ask_text n [t.d] q x
  | 0, t, q, x, ok, h, _, k => by cases t <;> (rw [MT.dep] at h; omega)
  | n + 1, .ask w ns, q, x, ok, h, _, k => by
    obtain ⟨h1, h2⟩ := ok
    obtain ⟨h3, h4, h5⟩ := ask_word h1
    have h7 := sumS_le (ys := ns) fun y hy => nm_len (h2 y hy)
    rw [wps__law_ask_text]
    refine ⟨rfl, ?_⟩
    walk_at "w"
    walk_at "i"
    refine ⟨by walk_at "z", ?_⟩
    walk_at "w"
    walk_at "i"
    refine ⟨by simp; omega, ?_⟩
    walk_at "w"
    refine ⟨w :: ns, .inl rfl, ?_, k⟩
    rw [List.map_cons, List.sum_cons, List.length_cons, show (" " : Str).length = 1 from by decide +kernel]
    omega
  | n + 1, .nt t, q, x, ok, h, h20, k => by
    rw [MT.dep] at h h20
    have l := text_len (t := t) ok
    rw [wps__law_ask_text]
    refine ⟨rfl, ?_⟩
    walk_at "w"
    walk_at "i"
    refine ask_text_v n t ok (by omega) (by omega) ?_
    walk_at "w"
    exact ⟨by rw [show ("not " : Str).length = 4 from by decide +kernel]; omega, k⟩
theorem sign_two {e : Str} {as : List Ar} (h : Fit e as) (hs : isSign e = true) : ∃ a b, as = [a, b] := by
  rcases h with ⟨rfl, _⟩ | ⟨ks, h1, h2⟩
  · rw [fig_at.1] at hs
    cases hs
  · have : ∀ p ∈ kindS, isSign p.1 = true → p.2.length = 2 := by decide +kernel
    have l1 := this _ h1 hs
    have l2 := (fitL_len h2).1
    match as, l2.trans l1 with
    | [a, b], _ => exact ⟨a, b, rfl⟩
theorem sign_in (e : Str) : decide (e ∈ (["+", "-", "*", "//", "**"] : List Str)) = isSign e := by
  unfold isSign
  rw [Bool.eq_iff_iff]
  simp
theorem app_assoc (a b c : Str) : a ++ b ++ c = a ++ (b ++ c) := by
  show (⟨a.cps ++ b.cps ++ c.cps⟩ : Str) = ⟨a.cps ++ (b.cps ++ c.cps)⟩
  rw [Array.append_assoc]
theorem join_cons (s a b : Str) (r : List Str) : Txt.join s (a :: b :: r) = a ++ (s ++ Txt.join s (b :: r)) := by
  unfold Txt.join
  rw [StrLaws.glued_eq_join, StrLaws.glued_eq_join]
  show a ++ s ++ Str.join s (b :: r) = _
  rw [app_assoc]
theorem join_one (s a : Str) : Txt.join s [a] = a := by
  unfold Txt.join
  rw [StrLaws.glued_eq_join]
  rfl
theorem line_sign {n e : Str} {a b : Ar} (hs : isSign e = true) : putLine n e [a, b] = ((((n ++ " = ") ++ a.text) ++ " ") ++ e) ++ " " ++ b.text := by
  unfold putLine
  rw [if_pos hs]
  show Txt.join " " [n, "=", a.text, e, b.text] = _
  rw [join_cons, join_cons, join_cons, join_cons, join_one]
  simp only [app_assoc]
  rw [show (" = " : Str) = " " ++ ("=" ++ " ") from by decide +kernel]
  simp only [app_assoc]
theorem line_other {n e : Str} {as : List Ar} (hs : isSign e = false) : putLine n e as = Txt.join " " ([n, "=", e] ++ as.map Ar.text) := by
  unfold putLine
  rw [if_neg (by rw [hs]; exact Bool.false_ne_true)]
  rfl
theorem lines_v : ∀ n : Nat, (∀ (r : MR) {q : D → Prop} {x : DX → Prop}, OkR r → 2 * r.dep ≤ n → r.cnt ≤ 300 → q (.lst (r.lines.map .str)) → wp__law_lines n [r.d] q x) ∧
    (∀ (rs : List MR) (d : D) {q : D → Prop} {x : DX → Prop}, (d = .tup (rs.map MR.d) ∨ d = .lst (rs.map MR.d)) → OkM rs → 2 * depM rs + 1 ≤ n → cntM rs ≤ 300 → q (.lst ((linesM rs).map .str)) → wp__law_all_lines n [d] q x)
  | 0 => ⟨fun r q x ok h hc k => by have := dep_pos r; omega, fun rs d q x hd ok h hc k => by omega⟩
  | n + 1 => by
    obtain ⟨ih1, ih2⟩ := lines_v n
    refine ⟨fun r q x ok h hc k => ?_, fun rs d q x hd ok h hc k => ?_⟩
    · rw [wps__law_lines]
      refine ⟨rfl, ?_⟩
      cases r with
      | stop =>
        walk_at "w"
        walk_at "i"
        exact ⟨by walk_at "z", k⟩
      | put m e as =>
        rw [OkR] at ok
        obtain ⟨hm, hf⟩ := ok
        obtain ⟨f1, f2, f3⟩ := fit_len hf
        walk_at "w"
        walk_at "i"
        refine lc_map (φ := Ar.d) (fun a => .str a.text) as (fun a ha kk n hk => ?_) (by omega) ?_
        · walk_at "w"
          exact str_v (x := fun _ => False) (f3 a ha) hk (fit_sm hf a ha)
        rw [show as.map (fun a => D.str a.text) = (as.map Ar.text).map D.str by rw [List.map_map]; rfl]
        walk_at "w"
        walk_at "i"
        refine ⟨by walk_at "z", ?_⟩
        refine in_t (l := ["+", "-", "*", "//", "**"]) ?_
        rw [if_neg Bool.false_ne_true, sign_in]
        refine iteB_by (fun hs => ?_) (fun hs => ?_)
        · obtain ⟨a, b, rfl⟩ := sign_two hf hs
          have lm := nm_len hm
          have la := f3 a (by simp)
          have lb := f3 b (by simp)
          rw [MR.lines, line_sign hs] at k
          have e3 : (" = " : Str).length = 3 := by decide +kernel
          have e1 : (" " : Str).length = 1 := by decide +kernel
          walk_at "w"
          walk_at "i"
          refine ⟨by rw [e3]; omega, ?_⟩
          walk_at "w"
          walk_at "i"
          refine ⟨by rw [app_len, e3]; omega, ?_⟩
          walk_at "w"
          refine ⟨by rw [app_len, app_len, e3, e1]; omega, ?_⟩
          walk_at "w"
          walk_at "i"
          refine ⟨by rw [app_len, app_len, app_len, e3, e1]; omega, ?_⟩
          walk_at "w"
          refine ⟨by rw [app_len, app_len, app_len, app_len, e3, e1]; omega, ?_⟩
          walk_at "w"
          walk_at "i"
          refine ⟨by rw [app_len, app_len, app_len, app_len, app_len, e3, e1]; omega, ?_⟩
          walk_at "w"
          exact ⟨by walk_at "z", k⟩
        · rw [MR.lines, line_other hs] at k
          walk_at "w"
          walk_at "i"
          refine ⟨by walk_at "z", ?_⟩
          walk_at "w"
          refine ⟨by simp; omega, ?_⟩
          walk_at "w"
          refine ⟨[m, "=", e] ++ as.map Ar.text, .inl (by simp), ?_, ?_⟩
          · have h4 := sumS_le (ys := as.map Ar.text) (k := 4) fun y hy => by
              obtain ⟨a, ha, rfl⟩ := List.mem_map.mp hy
              exact f3 a ha
            have lm := nm_len hm
            rw [List.length_map] at h4
            rw [List.map_append, List.sum_append, List.length_append, List.length_map, show (" " : Str).length = 1 from by decide +kernel]
            simp only [List.map_cons, List.map_nil, List.sum_cons, List.sum_nil, List.length_cons, List.length_nil, show ("=" : Str).length = 1 from by decide +kernel]
            omega
          walk_at "w"
          exact ⟨by walk_at "z", k⟩
      | times c a =>
        rw [OkR] at ok
        rw [MR.dep] at h
        rw [MR.cnt] at hc
        rw [MR.lines] at k
        obtain ⟨l1, l2⟩ := linesM_len ok.2
        have l4 := num_len ok.1.1 ok.1.2
        walk_at "w"
        walk_at "i"
        rw [dMs_map]
        refine ih2 a _ (.inl rfl) ok.2 (by omega) (by omega) ?_
        walk_at "w"
        walk_at "i"
        refine ⟨log_of (sm_lil (by omega) (by omega)), ?_⟩
        refine ⟨by rw [show ("times " : Str).length = 6 from by decide +kernel]; omega, ?_⟩
        walk_at "w"
        refine ⟨by walk_at "z", ?_⟩
        walk_at "w"
        refine ⟨by simp; omega, ?_⟩
        walk_at "w"
        refine ⟨by walk_at "z", ?_⟩
        walk_at "w"
        refine ⟨by simp; omega, ?_⟩
        rw [List.map_append, List.map_append] at k
        exact k
      | ifs t a b =>
        rw [OkR] at ok
        rw [MR.dep] at h
        rw [MR.cnt] at hc
        rw [MR.lines] at k
        obtain ⟨l1, l2⟩ := linesM_len ok.2.1
        obtain ⟨m1, m2⟩ := linesM_len ok.2.2
        have l4 := text_len ok.1.1
        have td := ok.1.2
        walk_at "w"
        walk_at "i"
        rw [dMs_map]
        refine ih2 a _ (.inl rfl) ok.2.1 (by omega) (by omega) ?_
        walk_at "w"
        walk_at "i"
        rw [show decide (((dMs b).length : Int) > 0) = !b.isEmpty by
          rw [dMs_map, List.length_map]
          cases b <;> simp <;> omega]
        cases hb : b.isEmpty with
        | true =>
          rw [hb, if_pos rfl, List.append_nil] at k
          walk_at "w"
          walk_at "i"
          refine ask_text_v 9 t ok.1.1 (by omega) (by omega) ?_
          refine ⟨by rw [show ("if " : Str).length = 3 from by decide +kernel]; omega, ?_⟩
          walk_at "w"
          refine ⟨by walk_at "z", ?_⟩
          walk_at "w"
          refine ⟨by simp; omega, ?_⟩
          walk_at "w"
          refine ⟨by walk_at "z", ?_⟩
          walk_at "w"
          refine ⟨by simp; omega, ?_⟩
          rw [List.map_append, List.map_append] at k
          exact k
        | false =>
          rw [hb, if_neg Bool.false_ne_true] at k
          walk_at "w"
          refine ⟨by walk_at "z", ?_⟩
          walk_at "w"
          refine ⟨by simp; omega, ?_⟩
          walk_at "w"
          walk_at "i"
          rw [dMs_map]
          refine ih2 b _ (.inl rfl) ok.2.2 (by omega) (by omega) ?_
          walk_at "w"
          refine ⟨by simp; omega, ?_⟩
          walk_at "w"
          walk_at "i"
          refine ask_text_v 9 t ok.1.1 (by omega) (by omega) ?_
          refine ⟨by rw [show ("if " : Str).length = 3 from by decide +kernel]; omega, ?_⟩
          walk_at "w"
          refine ⟨by walk_at "z", ?_⟩
          walk_at "w"
          refine ⟨by simp; omega, ?_⟩
          walk_at "w"
          refine ⟨by walk_at "z", ?_⟩
          walk_at "w"
          refine ⟨by simp; omega, ?_⟩
          have e : ∀ (f i l m n : List D), f ++ (i ++ l ++ m) ++ n = f ++ i ++ (l ++ m) ++ n := fun f i l m n => by simp
          rw [List.map_append, List.map_append, List.map_append, List.map_append] at k
          exact (e _ _ _ _ _) ▸ k
    · rw [wps__law_all_lines]
      refine ⟨rfl, ?_⟩
      obtain ⟨l1, l2⟩ := linesM_len ok
      rcases hd with rfl | rfl <;> (
        walk_at "w"
        refine ⟨by walk_at "z", ?_⟩
        refine ⟨by walk_at "z", ?_⟩
        dsimp only
        refine seq_by (fun env => ∃ z0 z, env = [z0, .ow ((linesM rs).map .str), z]) (fun e' _ _ _ _ hnx => ?_) ?_
        · walk_at "w"
          refine for_map (φ := MR.d) (fun pre env => ∃ z0 z, env = [z0, .ow ((linesM pre).map .str), z]) rs ⟨_, _, rfl⟩ ?_ (fun env h => hnx env h)
          rintro pre r suf _ e2 hx ⟨z0, z, rfl⟩ _ _ _ _ hN
          have hb : (linesM pre).length + r.lines.length ≤ 3000 := by
            have := linesM_app (pre ++ [r]) suf
            rw [List.append_assoc, List.singleton_append, ← hx, linesM_app] at this
            have := congrArg List.length this
            simp only [List.length_append, linesM, List.length_nil] at this
            omega
          have hr : r ∈ rs := by rw [hx]; simp
          have := dep_mem hr
          have := cnt_mem hr
          walk_at "w"
          refine ih1 r (okM_mem ok r hr) (by omega) (by omega) ?_
          exact ⟨_, rfl, by rw [List.length_map, List.length_map]; omega, hN _ ⟨_, _, by rw [linesM_app, linesM, linesM, List.append_nil, List.map_append]; rfl⟩⟩
        rintro _ ⟨z0, z, rfl⟩
        walk_at "w"
        exact k)

end K15

local macro_rules | `(tactic| walk_at "go") => `(tactic| repeat (first | refine ⟨_, rfl, ?_⟩ | refine ⟨_, _, rfl, rfl, ?_⟩ | refine ⟨rfl, ?_⟩ | refine ⟨_, _, rfl, rfl, ⟨by decide, by decide, by decide⟩, ?_⟩))
local macro_rules | `(tactic| walk_at "w") => `(tactic| conv => whnf)
local macro_rules | `(tactic| walk_at "z") => `(tactic| first | decide | exact Nat.le_of_ble_eq_true rfl | omega | (simp; omega))
local macro_rules | `(tactic| walk_at "i") => `(tactic| repeat (refine ⟨_, rfl, ?_⟩; walk_at "w"))
namespace K15
open PySem PySem.Spec PyProof.Rows L2 Eb
variable {q : D → Prop} {x : DX → Prop}
theorem ask_of_v : ∀ (n : Nat) (t : MT) {q : D → Prop} {x : DX → Prop}, OkT t → t.dep ≤ n → t.dep ≤ 20 → q (mtO t) → wp__law_ask_of n [t.d] q x
  | 0, t, q, x, ok, h, _, k => by cases t <;> (rw [MT.dep] at h; omega)
  | n + 1, .ask w ns, q, x, ok, h, _, k => by
    obtain ⟨h1, h2⟩ := id ok
    obtain ⟨h3, h4, h5⟩ := ask_word h1
    rw [wps__law_ask_of]
    refine ⟨rfl, ?_⟩
    match ns, h4, h5 with
    | [a], _, _ =>
      walk_at "w"
      walk_at "i"
      exact ask_v (ns := [a]) ok k
    | [a, b], _, _ =>
      walk_at "w"
      walk_at "i"
      exact ask_v (ns := [a, b]) ok k
  | n + 1, .nt t, q, x, ok, h, h20, k => by
    rw [MT.dep] at h h20
    rw [wps__law_ask_of]
    refine ⟨rfl, ?_⟩
    walk_at "w"
    walk_at "i"
    refine ask_of_v n t ok (by omega) (by omega) ?_
    exact not_v ok (by omega) k
theorem row_of_v : ∀ (n : Nat) (r : MR) {q : D → Prop} {x : DX → Prop}, OkR r → r.dep ≤ n → r.cnt ≤ 300 → q r.o → wp__law_row_of n [r.d] q x
  | 0, r, q, x, ok, h, hc, k => by have := dep_pos r; omega
  | n + 1, .stop, q, x, ok, h, hc, k => by
    rw [wps__law_row_of]
    refine ⟨rfl, ?_⟩
    walk_at "w"
    walk_at "i"
    exact stop_v k
  | n + 1, .times c a, q, x, ok, h, hc, k => by
    rw [OkR] at ok
    rw [MR.dep] at h
    rw [MR.cnt] at hc
    have la := cntM_len a
    rw [wps__law_row_of]
    refine ⟨rfl, ?_⟩
    walk_at "w"
    walk_at "i"
    rw [dMs_map]
    refine lc_map (φ := MR.d) MR.o a (fun r hr kk m hk => ?_) (by omega) ?_
    · walk_at "w"
      have := dep_mem hr
      have := cnt_mem hr
      exact row_of_v n r (okM_mem ok.2 r hr) (by omega) (by omega) hk
    rw [← oMs_map]
    walk_at "w"
    exact times_v ok.1.1 ok.1.2 ok.2 (by omega) k
  | n + 1, .ifs t a b, q, x, ok, h, hc, k => by
    rw [OkR] at ok
    rw [MR.dep] at h
    rw [MR.cnt] at hc
    have la := cntM_len a
    have lb := cntM_len b
    have td := ok.1.2
    rw [wps__law_row_of]
    refine ⟨rfl, ?_⟩
    walk_at "w"
    walk_at "i"
    rw [dMs_map b]
    refine lc_map (φ := MR.d) MR.o b (fun r hr kk m hk => ?_) (by omega) ?_
    · walk_at "w"
      have := dep_mem hr
      have := cnt_mem hr
      exact row_of_v n r (okM_mem ok.2.2 r hr) (by omega) (by omega) hk
    rw [← oMs_map]
    walk_at "w"
    walk_at "i"
    refine ask_of_v 9 t ok.1.1 (by omega) (by omega) ?_
    walk_at "w"
    walk_at "i"
    rw [dMs_map a]
    refine lc_map (φ := MR.d) MR.o a (fun r hr kk m hk => ?_) (by omega) ?_
    · walk_at "w"
      have := dep_mem hr
      have := cnt_mem hr
      exact row_of_v n r (okM_mem ok.2.1 r hr) (by omega) (by omega) hk
    rw [← oMs_map]
    walk_at "w"
    exact if_v ok.1.1 td ok.2.1 ok.2.2 (by omega) (by omega) k
  | n + 1, .put m e as, q, x, ok, h, hc, k => by
    rw [OkR] at ok
    obtain ⟨hm, hf⟩ := ok
    obtain ⟨f1, f2, f3⟩ := fit_len hf
    rw [wps__law_row_of]
    refine ⟨rfl, ?_⟩
    match as, f2, hf, k with
    | [], _, hf, k => walk_at "w"; walk_at "i"; exact put_v (as := []) hm hf k
    | [a], _, hf, k => walk_at "w"; walk_at "i"; exact put_v (as := [a]) hm hf k
    | [a, b], _, hf, k => walk_at "w"; walk_at "i"; exact put_v (as := [a, b]) hm hf k
    | [a, b, c], _, hf, k => walk_at "w"; walk_at "i"; exact put_v (as := [a, b, c]) hm hf k
    | [a, b, c, d], _, hf, k => walk_at "w"; walk_at "i"; exact put_v (as := [a, b, c, d]) hm hf k
    | [a, b, c, d, f], _, hf, k => walk_at "w"; walk_at "i"; exact put_v (as := [a, b, c, d, f]) hm hf k
    | [a, b, c, d, f, g], _, hf, k => walk_at "w"; walk_at "i"; exact put_v (as := [a, b, c, d, f, g]) hm hf k
def lo (s : Str) : Prop := ∀ c ∈ s.cps.toList, c < 128
theorem lo_app {a b : Str} (ha : lo a) (hb : lo b) : lo (a ++ b) := fun c hc => by
  have hc : c ∈ (a.cps ++ b.cps).toList := hc
  rw [Array.toList_append] at hc
  rcases List.mem_append.mp hc with h | h
  · exact ha c h
  · exact hb c h
theorem lo_joinL {s : List Nat} (hs : ∀ c ∈ s, c < 128) : ∀ {ls : List (List Nat)}, (∀ l ∈ ls, ∀ c ∈ l, c < 128) → ∀ c ∈ joinL s ls, c < 128
  | [], _, c, h => by cases h
  | [l], hl, c, h => hl l (List.mem_cons_self ..) c h
  | l :: m :: r, hl, c, h => by
    have h : c ∈ l ++ s ++ joinL s (m :: r) := h
    rcases List.mem_append.mp h with h | h
    · rcases List.mem_append.mp h with h | h
      · exact hl l (List.mem_cons_self ..) c h
      · exact hs c h
    · exact lo_joinL hs (fun l h => hl l (List.mem_cons_of_mem _ h)) c h
theorem lo_join {s : Str} {ys : List Str} (hs : lo s) (hy : ∀ y ∈ ys, lo y) : lo (Txt.join s ys) := by
  have e : Txt.join s ys = tx (joinL s.cps.toList (ys.map fun y => y.cps.toList)) := by
    rw [← tx_join, List.map_map, ← tx_of s]
    congr 1
    exact (List.map_id' ys).symm
  rw [e]
  intro c hc
  rw [tx_cps] at hc
  exact lo_joinL hs (fun l hl => by
    obtain ⟨y, h, rfl⟩ := List.mem_map.mp hl
    exact hy y h) c hc
theorem lo_nm {s : Str} (h : isNm s) : lo s := fun c hc => by
  have := (h.2 c hc).2
  omega
theorem lo_num {i : Int} (h0 : 0 ≤ i) : lo (Str.ofString (toString i)) := by
  obtain ⟨m, rfl⟩ := Int.eq_ofNat_of_zero_le h0
  rw [tx_num]
  intro c hc
  rw [tx_cps] at hc
  have := TT.dg_D m c hc
  unfold TT.isD at this
  omega
theorem lo_fit {e : Str} {as : List Ar} (h : Fit e as) : lo e ∧ ∀ a ∈ as, lo a.text := by
  have la : ∀ {k : Nat} {a : Ar}, fitA k a → lo a.text := fun {k a} h => by
    cases a with
    | nm s => exact lo_nm h.2
    | no i => exact lo_num h.2.1
  rcases h with ⟨rfl, _, _, h2⟩ | ⟨ks, h1, h2⟩
  · exact ⟨by unfold lo; decide +kernel, fun a ha => la (h2 a ha)⟩
  · have : ∀ p ∈ kindS, lo p.1 := by unfold lo; decide +kernel
    exact ⟨this _ h1, fun a ha => by obtain ⟨k, hk⟩ := (fitL_len h2).2 a ha; exact la hk⟩
theorem lo_line {n e : Str} {as : List Ar} (hn : isNm n) (h : Fit e as) : lo (putLine n e as) := by
  obtain ⟨h1, h2⟩ := lo_fit h
  have hm : ∀ y ∈ as.map Ar.text, lo y := fun y hy => by
    obtain ⟨a, ha, rfl⟩ := List.mem_map.mp hy
    exact h2 a ha
  refine lo_join (by unfold lo; decide +kernel) fun y hy => ?_
  rcases List.mem_append.mp hy with hy | hy
  · simp only [List.mem_cons, List.not_mem_nil, or_false] at hy
    rcases hy with rfl | rfl
    · exact lo_nm hn
    · unfold lo; decide +kernel
  · split at hy
    · rcases List.mem_append.mp hy with hy | hy
      · rcases List.mem_append.mp hy with hy | hy
        · exact hm y (List.mem_of_mem_take hy)
        · rw [List.mem_singleton.mp hy]; exact h1
      · exact hm y (List.mem_of_mem_drop hy)
    · rcases List.mem_append.mp hy with hy | hy
      · rw [List.mem_singleton.mp hy]; exact h1
      · exact hm y hy
theorem lo_text : ∀ {t : MT}, OkT t → lo t.text
  | .ask w ns, h => by
    have : ∀ p ∈ askS, lo p.1 := by unfold lo; decide +kernel
    rw [MT.text]
    refine lo_join (by unfold lo; decide +kernel) fun y hy => ?_
    rcases List.mem_cons.mp hy with rfl | hy
    · exact this _ h.1
    · exact lo_nm (h.2 y hy)
  | .nt t, h => by
    rw [MT.text]
    exact lo_app (by unfold lo; decide +kernel) (lo_text (t := t) h)
mutual
theorem lo_lines : ∀ {r : MR}, OkR r → ∀ l ∈ r.lines, lo l
  | .put n e as, h, l, hl => by
    rw [OkR] at h
    rw [MR.lines] at hl
    rw [List.mem_singleton.mp hl]
    exact lo_line h.1 h.2
  | .stop, h, l, hl => by
    rw [MR.lines] at hl
    rw [List.mem_singleton.mp hl]
    unfold lo; decide +kernel
  | .ifs t a b, h, l, hl => by
    rw [OkR] at h
    rw [MR.lines] at hl
    simp only [List.mem_append, List.mem_singleton] at hl
    rcases hl with ((hl | hl) | hl) | hl
    · rw [hl]; exact lo_app (by unfold lo; decide +kernel) (lo_text h.1.1)
    · exact lo_linesM h.2.1 l hl
    · split at hl
      · cases hl
      · rcases List.mem_append.mp hl with hl | hl
        · rw [List.mem_singleton.mp hl]; unfold lo; decide +kernel
        · exact lo_linesM h.2.2 l hl
    · rw [hl]; unfold lo; decide +kernel
  | .times k a, h, l, hl => by
    rw [OkR] at h
    rw [MR.lines] at hl
    simp only [List.mem_append, List.mem_singleton] at hl
    rcases hl with (hl | hl) | hl
    · rw [hl]; exact lo_app (by unfold lo; decide +kernel) (lo_num h.1.1)
    · exact lo_linesM h.2 l hl
    · rw [hl]; unfold lo; decide +kernel
theorem lo_linesM : ∀ {rs : List MR}, OkM rs → ∀ l ∈ linesM rs, lo l
  | [], _, l, hl => by rw [linesM] at hl; exact absurd hl (List.not_mem_nil)
  | r :: rs, h, l, hl => by
    rw [OkM] at h
    rw [linesM] at hl
    rcases List.mem_append.mp hl with hl | hl
    · exact lo_lines h.1 l hl
    · exact lo_linesM h.2 l hl
end
theorem lo_ok {s : Str} (h : lo s) : PyData.strOk s = true := by
  unfold PyData.strOk
  rw [Array.all_eq_true_iff_forall_mem]
  intro c hc
  have := h c (Array.mem_toList_iff.mpr hc)
  exact decide_eq_true (by omega)
theorem pys_strs : ∀ ns : List Str, D.pys (ns.map D.str) = some (ns.map PyData.str)
  | [] => by simp [D.pys]
  | n :: ns => by simp [D.pys, D.py, pys_strs ns]
theorem lay_strs : ∀ {xs : List Str}, (∀ s ∈ xs, lo s) → PyData.canLayAll0 (xs.map PyData.str) = true
  | [], _ => by simp [PyData.canLayAll0]
  | x :: r, h => by simp [PyData.canLayAll0, PyData.canLay0, lay_strs fun s hs => h s (List.mem_cons_of_mem _ hs), lo_ok (h x (List.mem_cons_self ..))]
theorem depth_strs : ∀ xs : List Str, PyData.depthAll (xs.map PyData.str) = 0
  | [] => by simp [PyData.depthAll]
  | x :: r => by simp [PyData.depthAll, PyData.depth, depth_strs r]
theorem eqv_strs : ∀ xs ys : List Str, PyData.eqvAll (xs.map PyData.str) (ys.map PyData.str) = decide (xs = ys)
  | [], [] => by simp [PyData.eqvAll]
  | [], _ :: _ => by simp [PyData.eqvAll]
  | _ :: _, [] => by simp [PyData.eqvAll]
  | x :: r, y :: q => by
    simp only [List.map_cons, PyData.eqvAll, PyData.eqv, eqv_strs r q]
    by_cases h : x = y
    · subst h; simp
    · simp [h]
theorem eqP_tstrs {q : Bool → Prop} {xs ys : List Str} (hx : ∀ s ∈ xs, lo s) (hy : ∀ s ∈ ys, lo s) (h : q (decide (xs = ys))) : eqP (.tup (xs.map .str)) (.tup (ys.map .str)) q := by
  have s : ∀ l : List Str, (∀ s ∈ l, lo s) → SeqAt.shaped (.tuple (l.map PyData.str)) = true := fun l hl => by
    unfold SeqAt.shaped
    simp [PyData.canLay0, PyData.depth, lay_strs hl, depth_strs]
  unfold eqP
  exact ⟨.tuple (xs.map .str), .tuple (ys.map .str), by simp only [D.py, pys_strs], by simp only [D.py, pys_strs], s _ hx, s _ hy, by simp only [PyData.eqv, eqv_strs]; exact h⟩
theorem row_eq {r s : MR} (o1 : OkR r) (o2 : OkR s) (k : q (.bl (decide (r.lines = s.lines)))) : wp_Row_eq [r.o, s.o] q x := by
  have p1 := lo_lines o1
  have p2 := lo_lines o2
  obtain ⟨c, fs, e, h⟩ := row_o r
  obtain ⟨c2, gs, e2, h2⟩ := row_o s
  rw [e, e2]
  unfold wp_Row_eq
  refine ⟨rfl, ?_⟩
  rcases h with ⟨rfl, h⟩ | ⟨rfl, h⟩ | ⟨rfl, h⟩ | ⟨rfl, h⟩ <;> rcases h2 with ⟨rfl, h2⟩ | ⟨rfl, h2⟩ | ⟨rfl, h2⟩ | ⟨rfl, h2⟩ <;> (
    walk_at "w"
    rw [h]
    walk_at "w"
    rw [h2]
    exact eqP_tstrs p1 p2 k)
end K15

local macro_rules | `(tactic| walk_at "go") => `(tactic| repeat (first | refine ⟨_, rfl, ?_⟩ | refine ⟨_, _, rfl, rfl, ?_⟩ | refine ⟨rfl, ?_⟩ | refine ⟨_, _, rfl, rfl, ⟨by decide, by decide, by decide⟩, ?_⟩))
local macro_rules | `(tactic| walk_at "w") => `(tactic| conv => whnf)
local macro_rules | `(tactic| walk_at "z") => `(tactic| first | decide | exact Nat.le_of_ble_eq_true rfl | omega | (simp; omega))
local macro_rules | `(tactic| walk_at "i") => `(tactic| repeat (refine ⟨_, rfl, ?_⟩; walk_at "w"))
namespace K15
open PySem PySem.Spec PyProof.Rows L2 Eb
variable {q : D → Prop} {x : DX → Prop}
def MR.inner : MR → List MR
  | .put _ _ _ => []
  | .stop => []
  | .ifs _ a b => a ++ b
  | .times _ a => a
def MR.used : MR → List Str
  | .put n _ as => n :: arUsed as
  | .stop => []
  | .ifs t _ _ => t.used
  | .times _ _ => []
mutual
def MR.flat : MR → List MR
  | .put n e as => [.put n e as]
  | .stop => [.stop]
  | .ifs t a b => .ifs t a b :: (flatM a ++ flatM b)
  | .times k a => .times k a :: flatM a
def flatM : List MR → List MR
  | [] => []
  | r :: rs => r.flat ++ flatM rs
end
theorem flatM_app : ∀ rs qs : List MR, flatM (rs ++ qs) = flatM rs ++ flatM qs
  | [], qs => by rw [List.nil_append, flatM, List.nil_append]
  | r :: rs, qs => by rw [List.cons_append, flatM, flatM, flatM_app rs qs, List.append_assoc]
theorem flat_in (r : MR) : r.flat = r :: flatM r.inner := by
  cases r with
  | put n e as => rw [MR.flat, MR.inner, flatM]
  | stop => rw [MR.flat, MR.inner, flatM]
  | ifs t a b => rw [MR.flat, MR.inner, flatM_app]
  | times k a => rw [MR.flat, MR.inner]
mutual
theorem flat_len : ∀ r : MR, r.flat.length = r.cnt
  | .put n e as => by rw [MR.flat, MR.cnt]; rfl
  | .stop => by rw [MR.flat, MR.cnt]; rfl
  | .ifs t a b => by rw [MR.flat, MR.cnt, List.length_cons, List.length_append, flatM_len a, flatM_len b]; omega
  | .times k a => by rw [MR.flat, MR.cnt, List.length_cons, flatM_len a]; omega
theorem flatM_len : ∀ rs : List MR, (flatM rs).length = cntM rs
  | [] => by rw [flatM, cntM]; rfl
  | r :: rs => by rw [flatM, cntM, List.length_append, flat_len r, flatM_len rs]
end
theorem inner_cnt (r : MR) : 1 + cntM r.inner = r.cnt := by
  cases r with
  | put n e as => rw [MR.inner, MR.cnt, cntM]
  | stop => rw [MR.inner, MR.cnt, cntM]
  | ifs t a b => rw [MR.inner, MR.cnt, cntM_app]
  | times k a => rw [MR.inner, MR.cnt]
theorem inner_dep (r : MR) : 1 + depM r.inner = r.dep := by
  cases r with
  | put n e as => rw [MR.inner, MR.dep, depM]
  | stop => rw [MR.inner, MR.dep, depM]
  | ifs t a b => rw [MR.inner, MR.dep, depM_app]
  | times k a => rw [MR.inner, MR.dep]
mutual
theorem flat_ok : ∀ {r : MR}, OkR r → ∀ z ∈ r.flat, OkR z
  | .put n e as, h, z, hz => by rw [MR.flat] at hz; rw [List.mem_singleton.mp hz]; exact h
  | .stop, h, z, hz => by rw [MR.flat] at hz; rw [List.mem_singleton.mp hz]; exact h
  | .ifs t a b, h, z, hz => by
    have h' := h
    rw [OkR] at h'
    rw [MR.flat] at hz
    rcases List.mem_cons.mp hz with rfl | hz
    · exact h
    rcases List.mem_append.mp hz with hz | hz
    · exact flatM_ok h'.2.1 z hz
    · exact flatM_ok h'.2.2 z hz
  | .times k a, h, z, hz => by
    have h' := h
    rw [OkR] at h'
    rw [MR.flat] at hz
    rcases List.mem_cons.mp hz with rfl | hz
    · exact h
    · exact flatM_ok h'.2 z hz
theorem flatM_ok : ∀ {rs : List MR}, OkM rs → ∀ z ∈ flatM rs, OkR z
  | [], _, z, hz => by rw [flatM] at hz; cases hz
  | r :: rs, h, z, hz => by
    rw [OkM] at h
    rw [flatM] at hz
    rcases List.mem_append.mp hz with hz | hz
    · exact flat_ok h.1 z hz
    · exact flatM_ok h.2 z hz
end
theorem inner_o (r : MR) : ∃ c fs, r.o = .obj c fs ∧ ((c = 9 ∧ fs[1]? = some (.tup (oMs r.inner))) ∨ (c = 10 ∧ fs[1]? = some (.tup (oMs r.inner))) ∨ (c = 11 ∧ fs[4]? = some (.tup (oMs r.inner))) ∨ (c = 12 ∧ fs[3]? = some (.tup (oMs r.inner)))) := by
  cases r with
  | put n e as => exact ⟨_, _, rfl, .inl ⟨rfl, rfl⟩⟩
  | stop => exact ⟨_, _, rfl, .inr (.inl ⟨rfl, rfl⟩)⟩
  | ifs t a b => exact ⟨_, _, rfl, .inr (.inr (.inl ⟨rfl, by rw [MR.inner, oMs_map, oMs_map, oMs_map, List.map_append]; rfl⟩))⟩
  | times n a => exact ⟨_, _, rfl, .inr (.inr (.inr ⟨rfl, rfl⟩))⟩
theorem used_o (r : MR) : ∃ c fs, r.o = .obj c fs ∧ ((c = 9 ∧ fs[2]? = some (.tup (r.used.map .str))) ∨ (c = 10 ∧ fs[2]? = some (.tup (r.used.map .str))) ∨ (c = 11 ∧ fs[5]? = some (.tup (r.used.map .str))) ∨ (c = 12 ∧ fs[4]? = some (.tup (r.used.map .str)))) := by
  cases r with
  | put n e as => exact ⟨_, _, rfl, .inl ⟨rfl, rfl⟩⟩
  | stop => exact ⟨_, _, rfl, .inr (.inl ⟨rfl, rfl⟩)⟩
  | ifs t a b => exact ⟨_, _, rfl, .inr (.inr (.inl ⟨rfl, rfl⟩))⟩
  | times n a => exact ⟨_, _, rfl, .inr (.inr (.inr ⟨rfl, rfl⟩))⟩
theorem flat_v : ∀ (n : Nat) (rs : List MR) {q : D → Prop} {x : DX → Prop}, depM rs + 1 ≤ n → cntM rs ≤ 1000 → q (.lst ((flatM rs).map MR.o)) → wp_flat_rows n [.tup (oMs rs)] q x
  | 0, rs, q, x, h, hc, k => by omega
  | n + 1, rs, q, x, h, hc, k => by
    rw [wps_flat_rows]
    refine ⟨rfl, ?_⟩
    rw [oMs_map]
    walk_at "w"
    refine ⟨by walk_at "z", ?_⟩
    refine ⟨by walk_at "z", ?_⟩
    dsimp only
    refine seq_by (fun env => ∃ z, env = [.va (.tup (rs.map MR.o)), .ow ((flatM rs).map MR.o), z]) (fun e' _ _ _ _ hnx => ?_) ?_
    · walk_at "w"
      refine for_map (φ := MR.o) (fun pre env => ∃ z, env = [.va (.tup (rs.map MR.o)), .ow ((flatM pre).map MR.o), z]) rs ⟨_, rfl⟩ ?_ (fun env h => hnx env h)
      rintro pre r suf _ e2 hx ⟨z, rfl⟩ _ _ _ _ hN
      have hb : (flatM pre).length + r.flat.length ≤ 1000 := by
        have := flatM_app (pre ++ [r]) suf
        rw [List.append_assoc, List.singleton_append, ← hx, flatM_app] at this
        have := congrArg List.length this
        simp only [List.length_append, flatM, List.length_nil, flatM_len] at this
        rw [flatM_len]
        omega
      have hr : r ∈ rs := by rw [hx]; simp
      have d1 := dep_mem hr
      have d2 := inner_dep r
      have c1 := cnt_mem hr
      have c2 := inner_cnt r
      rw [flat_in, List.length_cons] at hb
      have fin : e2.nx [.va (.tup (rs.map MR.o)), .ow (((flatM pre).map MR.o ++ [r.o]) ++ (flatM r.inner).map MR.o), .va r.o] := hN _ ⟨_, by rw [flatM_app, flatM, flatM, List.append_nil, flat_in, List.map_append, List.map_cons, List.append_assoc]; rfl⟩
      obtain ⟨c, fs, e, h4⟩ := inner_o r
      rw [e] at fin ⊢
      walk_at "w"
      refine ⟨by rw [List.length_map]; omega, ?_⟩
      walk_at "w"
      rcases h4 with ⟨rfl, h4⟩ | ⟨rfl, h4⟩ | ⟨rfl, h4⟩ | ⟨rfl, h4⟩ <;> (
        walk_at "w"
        rw [h4]
        walk_at "w"
        refine flat_v n r.inner (by omega) (by omega) ?_
        exact ⟨_, rfl, by simp only [List.length_append, List.length_map, List.length_cons, List.length_nil]; omega, fin⟩)
    rintro _ ⟨z, rfl⟩
    walk_at "w"
    exact k
def putsS (us acc : List Str) : List Str := us.foldl (fun a s => SStr.put s a) acc
theorem put_mem {s z : Str} {l : List Str} : z ∈ SStr.put s l ↔ z = s ∨ z ∈ l := by
  unfold SStr.put
  split
  · rename_i h
    constructor
    · exact .inr
    · rintro (rfl | h2)
      · exact h
      · exact h2
  · exact List.mem_cons
theorem put_nd {s : Str} {l : List Str} (h : l.Nodup) : (SStr.put s l).Nodup := by
  unfold SStr.put
  split
  · exact h
  · rename_i hk
    exact List.nodup_cons.mpr ⟨hk, h⟩
theorem puts_mem : ∀ (us acc : List Str) (z : Str), z ∈ putsS us acc ↔ z ∈ us ∨ z ∈ acc
  | [], acc, z => by simp [putsS]
  | u :: us, acc, z => by
    show z ∈ putsS us (SStr.put u acc) ↔ _
    rw [puts_mem us, put_mem, List.mem_cons]
    constructor
    · rintro (h | h | h)
      · exact .inl (.inr h)
      · exact .inl (.inl h)
      · exact .inr h
    · rintro ((h | h) | h)
      · exact .inr (.inl h)
      · exact .inl h
      · exact .inr (.inr h)
theorem puts_nd : ∀ (us acc : List Str), acc.Nodup → (putsS us acc).Nodup
  | [], _, h => h
  | u :: us, acc, h => puts_nd us _ (put_nd h)
theorem puts_len : ∀ (us acc : List Str), (putsS us acc).length ≤ us.length + acc.length
  | [], acc => by simp [putsS]
  | u :: us, acc => by
    have h1 := puts_len us (SStr.put u acc)
    have h2 := SStr.put_len u acc
    show (putsS us (SStr.put u acc)).length ≤ _
    rw [List.length_cons]
    omega
theorem arUsed_fig : ∀ {as : List Ar}, (∀ a ∈ as, fitA 107 a) → arUsed as = []
  | [], _ => rfl
  | .nm s :: as, h => absurd rfl (h _ (List.mem_cons_self ..)).1
  | .no i :: as, h => by rw [arUsed]; exact arUsed_fig fun a ha => h a (List.mem_cons_of_mem _ ha)
theorem tused_len : ∀ {t : MT}, OkT t → t.used.length ≤ 2
  | .ask w ns, h => (ask_word h.1).2.2
  | .nt t, h => tused_len (t := t) h
theorem used3 {r : MR} (h : OkR r) : r.used.length ≤ 3 := by
  cases r with
  | put n e as =>
    rw [OkR] at h
    rw [MR.used, List.length_cons]
    rcases h.2 with ⟨_, _, _, h2⟩ | ⟨ks, h1, h2⟩
    · rw [arUsed_fig h2]; decide
    · have a := (kind_len h1).2
      have b := (fitL_len h2).1
      have c := used_len as
      omega
  | stop => decide
  | ifs t a b => rw [OkR] at h; rw [MR.used]; have := tused_len h.1.1; omega
  | times k a => exact Nat.zero_le _
def usedM (rs : List MR) : List Str := rs.flatMap MR.used
theorem usedM_len : ∀ {rs : List MR}, (∀ r ∈ rs, OkR r) → (usedM rs).length ≤ 3 * rs.length
  | [], _ => Nat.le_refl _
  | r :: rs, h => by
    have h1 := used3 (h r (List.mem_cons_self ..))
    have h2 := usedM_len (rs := rs) fun z hz => h z (List.mem_cons_of_mem _ hz)
    show (r.used ++ usedM rs).length ≤ _
    rw [List.length_append, List.length_cons]
    omega
def Nms (l ks : List Str) : Prop := ks.Nodup ∧ PyProof.Rows.sortedS ks = true ∧ ∀ z, z ∈ ks ↔ z ∈ l
theorem rising_pw : ∀ {p : Str} {l : List Str}, PyProof.Rows.risingS p l = true → ∀ z ∈ l, ¬ z.cps.toList < p.cps.toList
  | p, [], _, z, hz => by cases hz
  | p, y :: l, h, z, hz => by
    unfold PyProof.Rows.risingS at h
    rw [Bool.and_eq_true, Bool.not_eq_true', ltCps_eq, decide_eq_false_iff_not] at h
    rcases List.mem_cons.mp hz with rfl | hz
    · exact h.1
    · have := rising_pw h.2 z hz
      exact fun c => by
        have h1 := List.not_lt.mp h.1
        have h2 := List.not_lt.mp this
        exact absurd c (List.not_lt.mpr (List.le_trans h1 h2))
theorem sorted_pw : ∀ {l : List Str}, PyProof.Rows.sortedS l = true → l.Pairwise (fun a b => ¬ b.cps.toList < a.cps.toList)
  | [], _ => .nil
  | [y], _ => List.pairwise_singleton _ _
  | y :: z :: l, h => by
    have h : PyProof.Rows.risingS y (z :: l) = true := h
    refine List.pairwise_cons.mpr ⟨fun w hw => rising_pw h w hw, sorted_pw (l := z :: l) ?_⟩
    unfold PyProof.Rows.risingS at h
    rw [Bool.and_eq_true] at h
    exact h.2
theorem Nms.one {l l' ks ks' : List Str} (h : Nms l ks) (h' : Nms l' ks') (e : ∀ z, z ∈ l ↔ z ∈ l') : ks = ks' := by
  refine List.Perm.eq_of_pairwise (le := fun a b : Str => ¬ b.cps.toList < a.cps.toList) (fun a b _ _ h1 h2 => ?_) (sorted_pw h.2.1) (sorted_pw h'.2.1) ((List.perm_ext_iff_of_nodup h.1 h'.1).mpr fun z => by rw [h.2.2, h'.2.2, e])
  have := List.le_antisymm (List.not_lt.mp h1) (List.not_lt.mp h2)
  rw [tx_of a, tx_of b, this]
theorem nms_of {l acc ks : List Str} (hn : acc.Nodup) (hm : ∀ z, z ∈ acc ↔ z ∈ l) (hp : ks.Perm acc) (hs : PyProof.Rows.sortedS ks = true) : Nms l ks := ⟨hp.nodup_iff.mpr hn, hs, fun z => by rw [hp.mem_iff, hm]⟩
theorem ssIn_v {g : DG} {u : DE} {env1 : List Sl} {kf : List Str → Prop} (hs : ∀ (s : Str) (k : D → Prop), k (.str s) → g (.str s) env1 fun env' => u env' k (fun _ => False)) : ∀ (us acc : List Str), us.length + acc.length ≤ 60 → kf (putsS us acc) → ssIn g u env1 (us.map .str) acc kf
  | [], acc, _, h => h
  | s :: us, acc, hl, h => by
    rw [List.length_cons] at hl
    have := SStr.put_len s acc
    exact hs s _ ⟨s, rfl, by omega, ssIn_v hs us (SStr.put s acc) (by omega) h⟩
theorem ssOut_v {g : DG} {it1 : DA} {g1 : DG} {u : DE} {vs1 : List Nat} {env0 : List Sl} {kf : List Str → Prop} (hs : ∀ (r : MR) (K : List D → List Sl → Prop), (∀ env', (∀ (s : Str) (k : D → Prop), k (.str s) → g1 (.str s) (wipeE env' vs1) fun env2 => u env2 k (fun _ => False)) → K (r.used.map .str) env') → g r.o env0 fun env' => it1 env' (fun es => K es env') (fun _ => False)) :
    ∀ (rs : List MR) (acc : List Str), (usedM rs).length + acc.length ≤ 60 → kf (putsS (usedM rs) acc) → ssOut g it1 g1 u vs1 env0 (rs.map MR.o) acc kf
  | [], acc, _, h => h
  | r :: rs, acc, hl, h => by
    have e : usedM (r :: rs) = r.used ++ usedM rs := rfl
    rw [e, List.length_append] at hl
    have h2 := puts_len r.used acc
    refine hs r (fun es env' => ssIn g1 u (wipeE env' vs1) es acc fun acc' => ssOut g it1 g1 u vs1 env0 (rs.map MR.o) acc' kf) fun env' h4 => ?_
    refine ssIn_v h4 r.used acc (by omega) (ssOut_v hs rs _ (by omega) ?_)
    rw [e] at h
    unfold putsS at h ⊢
    rw [List.foldl_append] at h
    exact h
def pgO (rs : List MR) (ks : List Str) : D := .obj 18 [.tup (oMs rs), .lst ((flatM rs).map MR.o), .tup ((linesM rs).map .str), .tup (ks.map .str)]
abbrev NmR (rs : List MR) (ks : List Str) : Prop := Nms (usedM (flatM rs)) ks
theorem prog_w {ra : D} {rs : List MR} {q : List D → Prop} (ok : OkM rs) (hc : cntM rs ≤ 19) (hd : depM rs ≤ 8) (hr : ∀ (q' : D → Prop) (x' : DX → Prop), q' (.tup (oMs rs)) → wp_rows_of [ra] q' x')
    (k : ∀ ks, NmR rs ks → q [.tup (oMs rs), .lst ((flatM rs).map MR.o), .tup ((linesM rs).map .str), .tup (ks.map .str)]) : wpOfI 18 4 1 2 t_Program_init [ra] q x := by
  have fo := flatM_ok ok
  have ul := usedM_len fo
  rw [flatM_len] at ul
  refine ⟨rfl, ?_⟩
  walk_at "w"
  refine hr _ _ ?_
  walk_at "w"
  refine ⟨rfl, rfl, ?_⟩
  walk_at "w"
  refine ⟨rfl, ?_⟩
  refine flat_v 9 rs (by omega) (by omega) ?_
  walk_at "w"
  refine ⟨rfl, rfl, ?_⟩
  walk_at "w"
  refine ⟨rfl, ?_⟩
  refine lines_of_v ok (by omega) ?_
  walk_at "w"
  refine ⟨rfl, rfl, ?_⟩
  walk_at "w"
  refine ⟨rfl, ?_⟩
  walk_at "w"
  refine ssOut_v (fun r K hK => ?_) (flatM rs) [] (by simp only [List.length_nil]; omega) ?_
  · obtain ⟨c, fs, e, h4⟩ := used_o r
    rw [e]
    rcases h4 with ⟨rfl, h4⟩ | ⟨rfl, h4⟩ | ⟨rfl, h4⟩ | ⟨rfl, h4⟩ <;> (
      walk_at "w"
      rw [h4]
      walk_at "w"
      refine hK _ fun s k hk => ?_
      walk_at "w"
      exact hk)
  refine ⟨?_, fun ks hp hs => ?_⟩
  · have := puts_len (usedM (flatM rs)) []
    simp only [List.length_nil] at this
    omega
  walk_at "w"
  refine ⟨rfl, rfl, ?_⟩
  exact ⟨rfl, rfl, k ks (nms_of (puts_nd _ _ List.nodup_nil) (fun z => by rw [puts_mem]; simp) hp hs)⟩
theorem prog_t {rs : List MR} {q : List D → Prop} (ok : OkM rs) (hc : cntM rs ≤ 19) (hd : depM rs ≤ 8) (k : ∀ ks, NmR rs ks → q [.tup (oMs rs), .lst ((flatM rs).map MR.o), .tup ((linesM rs).map .str), .tup (ks.map .str)]) : wp_Program_init [.tup (oMs rs)] q x := by
  have h := prog_w (x := x) ok hc hd (fun q' x' h => rows_of_t (by have := cntM_len rs; omega) h) k
  unfold wp_Program_init
  exact .inl h
theorem prog_0 {q : List D → Prop} (k : ∀ ks, NmR [] ks → q [.tup [], .lst [], .tup [], .tup (ks.map .str)]) : wp_Program_init [] q x := by
  have h := prog_w (x := x) (rs := []) (q := q) trivial (by rw [cntM]; decide) (by rw [depM]; decide) (fun q' x' h => rows_of_t (by decide) h) (by rw [flatM, linesM]; exact k)
  unfold wp_Program_init
  exact .inr h
theorem lines_sz {rs : List MR} (ok : OkM rs) (hc : cntM rs ≤ 300) : ((linesM rs).map (·.length)).sum + (linesM rs).length * ("\n" : Str).length ≤ 100000 := by
  obtain ⟨l1, l2⟩ := linesM_len ok
  have l3 := sumS_le l1
  rw [show ("\n" : Str).length = 1 from by decide +kernel]
  have : (linesM rs).length * 100 ≤ 900 * 100 := Nat.mul_le_mul_right _ (by omega)
  omega
theorem pstr_v {rs : List MR} {ks : List Str} (ok : OkM rs) (hc : cntM rs ≤ 300) (k : q (.str (Txt.join "\n" (linesM rs)))) : wp_Program_str [pgO rs ks] q x := by
  unfold wp_Program_str
  refine ⟨rfl, ?_⟩
  unfold pgO
  walk_at "w"
  exact ⟨_, .inr rfl, lines_sz ok hc, k⟩
end K15

local macro_rules | `(tactic| walk_at "go") => `(tactic| repeat (first | refine ⟨_, rfl, ?_⟩ | refine ⟨_, _, rfl, rfl, ?_⟩ | refine ⟨rfl, ?_⟩ | refine ⟨_, _, rfl, rfl, ⟨by decide, by decide, by decide⟩, ?_⟩))
local macro_rules | `(tactic| walk_at "w") => `(tactic| conv => whnf)
local macro_rules | `(tactic| walk_at "z") => `(tactic| first | decide | exact Nat.le_of_ble_eq_true rfl | omega | (simp; omega))
local macro_rules | `(tactic| walk_at "i") => `(tactic| repeat (refine ⟨_, rfl, ?_⟩; walk_at "w"))
namespace K15
open PySem PySem.Spec PyProof.Rows L2 Eb
variable {q : D → Prop} {x : DX → Prop}
theorem nldL_app : ∀ a b : List D, nldL (a ++ b) = (nldL a && nldL b)
  | [], b => by rw [List.nil_append, nldL, Bool.true_and]
  | x :: a, b => by rw [List.cons_append, nldL, nldL, nldL_app a b, Bool.and_assoc]
theorem nld_strs : ∀ l : List Str, nldL (l.map .str) = true
  | [] => rfl
  | s :: l => by rw [List.map_cons, nldL, nld_strs l]; rfl
theorem nld_ars : ∀ l : List Ar, nldL (l.map Ar.d) = true
  | [] => rfl
  | s :: l => by rw [List.map_cons, nldL, nld_ars l]; cases s <;> rfl
theorem nld_t : ∀ t : MT, (mtO t).nld = true
  | .ask w ns => by
    rw [mtO, D.nld]
    simp only [nldL, D.nld, nld_strs, Bool.and_self]
  | .nt t => by
    rw [mtO, D.nld]
    simp only [nldL, D.nld, nld_strs, nld_t t, Bool.and_self]
mutual
theorem nld_r : ∀ r : MR, r.o.nld = true
  | .put n e as => by
    rw [MR.o, D.nld]
    simp only [nldL, D.nld, nld_strs, nld_ars, Bool.and_self]
  | .stop => by rw [MR.o]; rfl
  | .ifs t a b => by
    rw [MR.o, D.nld]
    simp only [nldL, D.nld, nld_strs, nld_t t, nld_rs a, nld_rs b, nldL_app, Bool.and_self]
  | .times k a => by
    rw [MR.o, D.nld]
    simp only [nldL, D.nld, nld_strs, nld_rs a, Bool.and_self]
theorem nld_rs : ∀ rs : List MR, nldL (oMs rs) = true
  | [] => by rw [oMs]; rfl
  | r :: rs => by rw [oMs, nldL, nld_r r, nld_rs rs]; rfl
end
theorem ne_same {s : Str} (k : q (.bl false)) : neD (.str s) (.str s) q x := by
  show q (.bl (!(s == s)))
  rw [beq_self_eq_true]
  exact k
theorem eqM_same {r : MR} (ok : OkR r) (k : q (.bl true)) : eqMD [9, 10, 11, 12] [9, 10, 11, 12, 14, 15] wp_Row_eq r.o r.o q x := by
  have w := row_eq (q := q) (x := fun _ => False) ok ok (by rw [decide_eq_true rfl]; exact k)
  obtain ⟨c, fs, e, h⟩ := row_o r
  rw [e] at w ⊢
  refine ⟨?_, rfl, ?_, w⟩ <;> rcases h with ⟨rfl, _⟩ | ⟨rfl, _⟩ | ⟨rfl, _⟩ | ⟨rfl, _⟩ <;> simp
theorem prog_L {rs : List MR} {q : List D → Prop} (ok : OkM rs) (hc : cntM rs ≤ 19) (hd : depM rs ≤ 8) (k : ∀ ks, NmR rs ks → q [.tup (oMs rs), .lst ((flatM rs).map MR.o), .tup ((linesM rs).map .str), .tup (ks.map .str)]) : wpL_Program_init (oMs rs) q := by
  have fo := flatM_ok ok
  have ul := usedM_len fo
  rw [flatM_len] at ul
  unfold wpL_Program_init wpIL t1_Program_init t2_Program_init
  walk_at "w"
  refine rows_of_l (by have := cntM_len rs; omega) ?_
  refine ⟨rfl, rfl, ?_⟩
  refine ⟨_, _, rfl, rfl, by rw [D.nld]; exact nld_rs rs, ?_⟩
  walk_at "w"
  refine ⟨rfl, ?_⟩
  refine flat_v 9 rs (by omega) (by omega) ?_
  walk_at "w"
  refine ⟨rfl, rfl, ?_⟩
  walk_at "w"
  refine ⟨rfl, ?_⟩
  refine lines_of_v ok (by omega) ?_
  walk_at "w"
  refine ⟨rfl, rfl, ?_⟩
  walk_at "w"
  refine ⟨rfl, ?_⟩
  walk_at "w"
  refine ssOut_v (fun r K hK => ?_) (flatM rs) [] (by simp only [List.length_nil]; omega) ?_
  · obtain ⟨c, fs, e, h4⟩ := used_o r
    rw [e]
    rcases h4 with ⟨rfl, h4⟩ | ⟨rfl, h4⟩ | ⟨rfl, h4⟩ | ⟨rfl, h4⟩ <;> (
      walk_at "w"
      rw [h4]
      walk_at "w"
      refine hK _ fun s k hk => ?_
      walk_at "w"
      exact hk)
  refine ⟨?_, fun ks hp hs => ?_⟩
  · have := puts_len (usedM (flatM rs)) []
    simp only [List.length_nil] at this
    omega
  walk_at "w"
  refine ⟨rfl, rfl, ?_⟩
  exact ⟨rfl, rfl, k ks (nms_of (puts_nd _ _ List.nodup_nil) (fun z => by rw [puts_mem]; simp) hp hs)⟩
theorem strM_row {r : MR} (ok : OkR r) (hc : r.cnt ≤ 300) (k : q (.str (Txt.join "\n" r.lines))) : strMD [9, 10, 11, 12] wp_Row_str [r.o] q x := by
  have h := row_str (x := fun _ => False) (q := fun z => match z with | .str i => q (.str i) | _ => False) ok hc k
  obtain ⟨c, fs, e, h1⟩ := row_o r
  rw [e] at h ⊢
  unfold strMD
  rcases h1 with ⟨rfl, _⟩ | ⟨rfl, _⟩ | ⟨rfl, _⟩ | ⟨rfl, _⟩ <;> exact ⟨by decide, h⟩
theorem rlines_sz {r : MR} (ok : OkR r) (hc : r.cnt ≤ 300) : (r.lines.map (·.length)).sum + r.lines.length * ("\n" : Str).length ≤ 100000 := by
  obtain ⟨l1, l2⟩ := lines_len ok
  have l3 := sumS_le l1
  rw [show ("\n" : Str).length = 1 from by decide +kernel]
  have : r.lines.length * 100 ≤ 900 * 100 := Nat.mul_le_mul_right _ (by omega)
  omega

end K15

local macro_rules | `(tactic| walk_at "go") => `(tactic| repeat (first | refine ⟨_, rfl, ?_⟩ | refine ⟨_, _, rfl, rfl, ?_⟩ | refine ⟨rfl, ?_⟩ | refine ⟨_, _, rfl, rfl, ⟨by decide, by decide, by decide⟩, ?_⟩))
local macro_rules | `(tactic| walk_at "w") => `(tactic| conv => whnf)
local macro_rules | `(tactic| walk_at "z") => `(tactic| first | decide | exact Nat.le_of_ble_eq_true rfl | omega | (simp; omega))
local macro_rules | `(tactic| walk_at "i") => `(tactic| repeat (refine ⟨_, rfl, ?_⟩; walk_at "w"))
namespace K15
open PySem PySem.Spec PyProof.Rows L2 Eb
variable {q : D → Prop} {x : DX → Prop}
def shO (rs : List MR) : D := .obj 19 [.tup (oMs rs)]
theorem nob_strs (c : Nat) : ∀ l : List Str, nobL c (l.map .str) = true
  | [] => rfl
  | s :: l => by rw [List.map_cons, nobL, nob_strs c l]; rfl
theorem nob_ars (c : Nat) : ∀ l : List Ar, nobL c (l.map Ar.d) = true
  | [] => rfl
  | s :: l => by rw [List.map_cons, nobL, nob_ars c l]; cases s <;> rfl
theorem nobL_app (c : Nat) : ∀ a b : List D, nobL c (a ++ b) = (nobL c a && nobL c b)
  | [], b => by rw [List.nil_append, nobL, Bool.true_and]
  | x :: a, b => by rw [List.cons_append, nobL, nobL, nobL_app c a b, Bool.and_assoc]
theorem nob_t : ∀ t : MT, (mtO t).nob 19 = true
  | .ask w ns => by
    rw [mtO, D.nob]
    simp only [nobL, D.nob, nob_strs, Bool.and_self]
    rfl
  | .nt t => by
    rw [mtO, D.nob]
    simp only [nobL, D.nob, nob_strs, nob_t t, Bool.and_self]
    rfl
mutual
theorem nob_r : ∀ r : MR, r.o.nob 19 = true
  | .put n e as => by
    rw [MR.o, D.nob]
    simp only [nobL, D.nob, nob_strs, nob_ars, Bool.and_self]
    rfl
  | .stop => by rw [MR.o]; rfl
  | .ifs t a b => by
    rw [MR.o, D.nob]
    simp only [nobL, D.nob, nob_strs, nob_t t, nob_rs a, nob_rs b, nobL_app, Bool.and_self]
    rfl
  | .times k a => by
    rw [MR.o, D.nob]
    simp only [nobL, D.nob, nob_strs, nob_rs a, Bool.and_self]
    rfl
theorem nob_rs : ∀ rs : List MR, nobL 19 (oMs rs) = true
  | [] => by rw [oMs]; rfl
  | r :: rs => by rw [oMs, nobL, nob_r r, nob_rs rs]; rfl
end
theorem nob_tup (rs : List MR) : (D.tup (oMs rs)).nob 19 = true := by rw [D.nob]; exact nob_rs rs
theorem nob_pg (rs : List MR) (ks : List Str) : (pgO rs ks).nob 19 = true := by
  unfold pgO
  rw [D.nob]
  have h1 := nob_rs rs
  have h2 := nob_rs (flatM rs)
  rw [oMs_map] at h2
  simp only [nobL, D.nob, nob_strs, h1, h2, Bool.and_self]
  rfl
theorem place_v {rs : List MR} {i : Int} (h0 : 0 ≤ i) (h1 : i < (rs.length : Nat)) (k : q .non) : wp_Sheet_need_place [shO rs, .int i] q x := by
  unfold wp_Sheet_need_place
  refine ⟨rfl, ?_⟩
  unfold shO
  rw [oMs_map]
  walk_at "w"
  refine iteB_t (decide_eq_true h0) ?_
  walk_at "w"
  rw [List.length_map, decide_eq_true h1]
  exact k
theorem place_x {rs : List MR} {i : Int} (h : i < 0 ∨ (rs.length : Nat) ≤ i) (k : x ⟨7, some (.int i)⟩) : wp_Sheet_need_place [shO rs, .int i] q x := by
  unfold wp_Sheet_need_place
  refine ⟨rfl, ?_⟩
  unfold shO
  rw [oMs_map]
  walk_at "w"
  refine iteB_by (fun c => ?_) (fun c => ?_)
  · walk_at "w"
    have c := of_decide_eq_true c
    rw [List.length_map, decide_eq_false (by omega)]
    exact k
  · walk_at "w"
    exact k
theorem sget_v {rs : List MR} {j : Nat} {r : MR} (hr : rs[j]? = some r) (k : q r.o) : wp_Sheet_getitem [shO rs, .int (j : Nat)] q x := by
  have hl := (List.getElem?_eq_some_iff.mp hr).1
  unfold wp_Sheet_getitem
  refine ⟨rfl, ?_⟩
  walk_at "w"
  refine ⟨rfl, ?_⟩
  refine place_v (by omega) (by omega) ?_
  unfold shO
  rw [oMs_map]
  walk_at "w"
  exact ⟨_, atI_at (k := j) rfl (by rw [List.getElem?_map, hr]; rfl), k⟩
theorem sget_x {rs : List MR} {i : Int} (h : i < 0 ∨ (rs.length : Nat) ≤ i) (k : x ⟨7, some (.int i)⟩) : wp_Sheet_getitem [shO rs, .int i] q x := by
  unfold wp_Sheet_getitem
  refine ⟨rfl, ?_⟩
  walk_at "w"
  refine ⟨rfl, ?_⟩
  exact place_x h k
theorem slen_v {rs : List MR} (k : q (.int (rs.length : Nat))) : wp_Sheet_len [shO rs] q x := by
  unfold wp_Sheet_len
  refine ⟨rfl, ?_⟩
  unfold shO
  rw [oMs_map]
  walk_at "w"
  rw [List.length_map]
  exact k
theorem made_v {rs : List MR} (ok : OkM rs) (hc : cntM rs ≤ 19) (hd : depM rs ≤ 8) (k : ∀ ks, NmR rs ks → q (pgO rs ks)) : wp_Sheet_made [shO rs] q x := by
  unfold wp_Sheet_made
  refine ⟨rfl, ?_⟩
  unfold shO
  walk_at "w"
  exact prog_t ok hc hd k
theorem one_v {r : MR} (k : q .non) : wp_need_one [r.o] q x := by
  unfold wp_need_one
  refine ⟨rfl, ?_⟩
  cases r <;> (rw [MR.o]; walk_at "w"; exact k)
theorem one_x {d : D} (hd : d ∈ [D.non, .str "stop", .lst [MR.stop.o]] ∨ ∃ ks, d = pgO [] ks) (k : x ⟨4, some (.str "rows")⟩) : wp_need_one [d] q x := by
  unfold wp_need_one
  refine ⟨rfl, ?_⟩
  simp only [List.mem_cons, List.not_mem_nil, or_false] at hd
  rcases hd with (rfl | rfl | rfl) | ⟨ks, rfl⟩
  · walk_at "w"
    exact k
  · walk_at "w"
    exact k
  · walk_at "w"
    exact k
  · unfold pgO
    walk_at "w"
    exact k
theorem cut_nat (rs : List MR) (j : Nat) (hj : j < rs.length) : cutL (oMs rs) none (some (j : Int)) = oMs (rs.take j) ∧ cutL (oMs rs) (some ((j : Int) + 1)) none = oMs (rs.drop (j + 1)) := by
  rw [oMs_map, oMs_map, oMs_map]
  unfold cutL
  have e1 : HT.sIx (rs.map MR.o).length (rs.map MR.o).length (some (j : Int)) = j := by
    unfold HT.sIx
    simp only [List.length_map]
    rw [if_neg (by omega)]
    simp only [Int.toNat_natCast]
    omega
  have e2 : HT.sIx (rs.map MR.o).length 0 (some ((j : Int) + 1)) = j + 1 := by
    unfold HT.sIx
    simp only [List.length_map]
    rw [if_neg (by omega), show ((j : Int) + 1).toNat = j + 1 by omega]
    omega
  have e0 : HT.sIx (rs.map MR.o).length 0 none = 0 := rfl
  have e3 : HT.sIx (rs.map MR.o).length (rs.map MR.o).length none = (rs.map MR.o).length := rfl
  rw [e1, e2, e0, e3]
  constructor
  · rw [List.drop_zero, Nat.sub_zero, List.map_take]
  · rw [List.take_of_length_le (by simp), List.map_drop]
theorem oMs_app (rs qs : List MR) : oMs rs ++ oMs qs = oMs (rs ++ qs) := by rw [oMs_map, oMs_map, oMs_map, List.map_append]
theorem oMs_len (rs : List MR) : (oMs rs).length = rs.length := by rw [oMs_map, List.length_map]
theorem drop_v {rs : List MR} {j : Nat} {q : D → List Mu → Prop} {x : DX → List Mu → Prop} (hl : rs.length ≤ 1000) (hj : j < rs.length) (k : q .non [.va (.tup (oMs (rs.take j ++ rs.drop (j + 1))))]) : wp_Sheet_drop [.va (.tup (oMs rs))] [.int (j : Nat)] q x := by
  unfold wp_Sheet_drop
  refine ⟨rfl, ?_⟩
  walk_at "w"
  refine ⟨⟨rfl, rfl, rfl⟩, ?_⟩
  walk_at "w"
  refine ⟨rfl, ?_⟩
  refine place_v (by omega) (by omega) ?_
  refine ⟨rfl, ?_⟩
  walk_at "w"
  refine ⟨⟨rfl, rfl, rfl⟩, ?_⟩
  walk_at "w"
  rw [(cut_nat rs j hj).1, (cut_nat rs j hj).2, oMs_app, oMs_len, oMs_len]
  refine ⟨by simp only [List.length_take, List.length_drop]; omega, ?_⟩
  exact ⟨nob_tup _, ⟨rfl, Nat.zero_le _⟩, rfl, k⟩
theorem drop_x {rs : List MR} {i : Int} {q : D → List Mu → Prop} {x : DX → List Mu → Prop} (h : i < 0 ∨ (rs.length : Nat) ≤ i) (k : x ⟨7, some (.int i)⟩ [.va (.tup (oMs rs))]) : wp_Sheet_drop [.va (.tup (oMs rs))] [.int i] q x := by
  unfold wp_Sheet_drop
  refine ⟨rfl, ?_⟩
  walk_at "w"
  refine ⟨⟨rfl, rfl, rfl⟩, ?_⟩
  walk_at "w"
  refine ⟨rfl, ?_⟩
  refine place_x h ?_
  exact ⟨fun d e => by cases e; rfl, rfl, k⟩
theorem set_v {rs : List MR} {j : Nat} {r : MR} {q : D → List Mu → Prop} {x : DX → List Mu → Prop} (hl : rs.length ≤ 1000) (hj : j < rs.length) (k : q .non [.va (.tup (oMs (rs.take j ++ [r] ++ rs.drop (j + 1))))]) : wp_Sheet_setitem [.va (.tup (oMs rs))] [.int (j : Nat), r.o] q x := by
  unfold wp_Sheet_setitem
  refine ⟨rfl, ?_⟩
  walk_at "w"
  refine ⟨⟨rfl, rfl, rfl⟩, ?_⟩
  walk_at "w"
  refine ⟨rfl, ?_⟩
  refine place_v (by omega) (by omega) ?_
  refine ⟨rfl, ?_⟩
  walk_at "w"
  refine one_v ?_
  walk_at "w"
  refine ⟨⟨rfl, rfl, rfl⟩, ?_⟩
  walk_at "w"
  rw [(cut_nat rs j hj).1]
  refine ⟨by show 1 ≤ 100000; decide, ?_⟩
  walk_at "w"
  rw [show [r.o] = oMs [r] by rw [oMs_map]; rfl, oMs_app, oMs_len, oMs_len]
  refine ⟨by simp only [List.length_take, List.length_cons, List.length_nil]; omega, ?_⟩
  walk_at "w"
  rw [(cut_nat rs j hj).2, oMs_app, oMs_len, oMs_len]
  refine ⟨by simp only [List.length_append, List.length_take, List.length_drop, List.length_cons, List.length_nil]; omega, ?_⟩
  exact ⟨nob_tup _, ⟨rfl, Nat.zero_le _⟩, rfl, k⟩
theorem set_x {rs : List MR} {i : Int} {d : D} {q : D → List Mu → Prop} {x : DX → List Mu → Prop} (h : i < 0 ∨ (rs.length : Nat) ≤ i) (k : x ⟨7, some (.int i)⟩ [.va (.tup (oMs rs))]) : wp_Sheet_setitem [.va (.tup (oMs rs))] [.int i, d] q x := by
  unfold wp_Sheet_setitem
  refine ⟨rfl, ?_⟩
  walk_at "w"
  refine ⟨⟨rfl, rfl, rfl⟩, ?_⟩
  walk_at "w"
  refine ⟨rfl, ?_⟩
  refine place_x h ?_
  exact ⟨fun d e => by cases e; rfl, rfl, k⟩
def badD (d : D) : Prop := d ∈ [D.non, .str "stop", .lst [MR.stop.o]] ∨ ∃ ks, d = pgO [] ks
theorem set_y {rs : List MR} {j : Nat} {d : D} {q : D → List Mu → Prop} {x : DX → List Mu → Prop} (hj : j < rs.length) (hd : badD d) (k : x ⟨4, some (.str "rows")⟩ [.va (.tup (oMs rs))]) : wp_Sheet_setitem [.va (.tup (oMs rs))] [.int (j : Nat), d] q x := by
  unfold wp_Sheet_setitem
  refine ⟨rfl, ?_⟩
  walk_at "w"
  refine ⟨⟨rfl, rfl, rfl⟩, ?_⟩
  walk_at "w"
  refine ⟨rfl, ?_⟩
  refine place_v (by omega) (by omega) ?_
  refine ⟨rfl, ?_⟩
  walk_at "w"
  refine one_x hd ?_
  exact ⟨rfl, k⟩
theorem put1_v {rs : List MR} {r : MR} {q : D → List Mu → Prop} {x : DX → List Mu → Prop} (hl : rs.length ≤ 1000) (k : q .non [.va (.tup (oMs (rs ++ [r])))]) : wp_Sheet_iadd [.va (.tup (oMs rs))] [r.o] q x := by
  unfold wp_Sheet_iadd
  refine ⟨rfl, ?_⟩
  walk_at "w"
  refine one_v ?_
  walk_at "w"
  refine ⟨⟨rfl, rfl, rfl⟩, ?_⟩
  walk_at "w"
  refine ⟨by show 1 ≤ 100000; decide, ?_⟩
  walk_at "w"
  rw [show [r.o] = oMs [r] by rw [oMs_map]; rfl, oMs_app, oMs_len, oMs_len]
  refine ⟨by simp only [List.length_cons, List.length_nil]; omega, ?_⟩
  exact ⟨nob_tup _, ⟨rfl, Nat.zero_le _⟩, rfl, k⟩
theorem put1_y {rs : List MR} {d : D} {q : D → List Mu → Prop} {x : DX → List Mu → Prop} (hd : badD d) (k : x ⟨4, some (.str "rows")⟩ [.va (.tup (oMs rs))]) : wp_Sheet_iadd [.va (.tup (oMs rs))] [d] q x := by
  unfold wp_Sheet_iadd
  refine ⟨rfl, ?_⟩
  walk_at "w"
  refine one_x hd ?_
  exact ⟨rfl, k⟩
theorem deed_0 {rs : List MR} {i : Int} {r : MR} {q : D → List Mu → Prop} {x : DX → List Mu → Prop} (hl : rs.length ≤ 1000) (k : q .non [.va (.tup (oMs (rs ++ [r])))]) : wp__law_deed [.va (.tup (oMs rs))] [.int 0, .int i, r.o] q x := by
  unfold wp__law_deed
  refine ⟨rfl, ?_⟩
  walk_at "w"
  refine ⟨rfl, ?_⟩
  refine put1_v hl ?_
  exact ⟨rfl, k⟩
def nonE (i : Int) : D := .tup [.str "none", .int i]
def rowsE : D := .tup [.str "rows", .str "rows"]
theorem deed_y {rs : List MR} {i : Int} {d : D} {q : D → List Mu → Prop} {x : DX → List Mu → Prop} (hd : badD d) (k : q rowsE [.va (.tup (oMs rs))]) : wp__law_deed [.va (.tup (oMs rs))] [.int 0, .int i, d] q x := by
  unfold wp__law_deed
  refine ⟨rfl, ?_⟩
  walk_at "w"
  refine ⟨rfl, ?_⟩
  refine put1_y hd ?_
  refine ⟨by simp, ?_⟩
  walk_at "w"
  intro a cls od
  walk_at "w"
  refine ⟨rfl, rfl, rfl, rfl, ?_⟩
  exact ⟨by show 2 ≤ 100000; decide, rfl, k⟩
theorem deed1_v {rs : List MR} {j : Nat} {r : MR} {q : D → List Mu → Prop} {x : DX → List Mu → Prop} (hl : rs.length ≤ 1000) (hj : j < rs.length) (k : q .non [.va (.tup (oMs (rs.take j ++ [r] ++ rs.drop (j + 1))))]) : wp__law_deed [.va (.tup (oMs rs))] [.int 1, .int (j : Nat), r.o] q x := by
  unfold wp__law_deed
  refine ⟨rfl, ?_⟩
  walk_at "w"
  refine ⟨rfl, ?_⟩
  refine set_v hl hj ?_
  exact ⟨rfl, k⟩
theorem deed1_x {rs : List MR} {i : Int} {d : D} {q : D → List Mu → Prop} {x : DX → List Mu → Prop} (h : i < 0 ∨ (rs.length : Nat) ≤ i) (k : q (nonE i) [.va (.tup (oMs rs))]) : wp__law_deed [.va (.tup (oMs rs))] [.int 1, .int i, d] q x := by
  unfold wp__law_deed
  refine ⟨rfl, ?_⟩
  walk_at "w"
  refine ⟨rfl, ?_⟩
  refine set_x h ?_
  refine ⟨by simp, ?_⟩
  walk_at "w"
  intro a cls od
  walk_at "w"
  refine ⟨rfl, rfl, rfl, rfl, ?_⟩
  exact ⟨by show 2 ≤ 100000; decide, rfl, k⟩
theorem deed1_y {rs : List MR} {j : Nat} {d : D} {q : D → List Mu → Prop} {x : DX → List Mu → Prop} (hj : j < rs.length) (hd : badD d) (k : q rowsE [.va (.tup (oMs rs))]) : wp__law_deed [.va (.tup (oMs rs))] [.int 1, .int (j : Nat), d] q x := by
  unfold wp__law_deed
  refine ⟨rfl, ?_⟩
  walk_at "w"
  refine ⟨rfl, ?_⟩
  refine set_y hj hd ?_
  refine ⟨by simp, ?_⟩
  walk_at "w"
  intro a cls od
  walk_at "w"
  refine ⟨rfl, rfl, rfl, rfl, ?_⟩
  exact ⟨by show 2 ≤ 100000; decide, rfl, k⟩
theorem deed2_v {rs : List MR} {j : Nat} {d : D} {q : D → List Mu → Prop} {x : DX → List Mu → Prop} (hl : rs.length ≤ 1000) (hj : j < rs.length) (k : q .non [.va (.tup (oMs (rs.take j ++ rs.drop (j + 1))))]) : wp__law_deed [.va (.tup (oMs rs))] [.int 2, .int (j : Nat), d] q x := by
  unfold wp__law_deed
  refine ⟨rfl, ?_⟩
  walk_at "w"
  refine ⟨rfl, ?_⟩
  refine drop_v hl hj ?_
  exact ⟨rfl, k⟩
theorem deed2_x {rs : List MR} {i : Int} {d : D} {q : D → List Mu → Prop} {x : DX → List Mu → Prop} (h : i < 0 ∨ (rs.length : Nat) ≤ i) (k : q (nonE i) [.va (.tup (oMs rs))]) : wp__law_deed [.va (.tup (oMs rs))] [.int 2, .int i, d] q x := by
  unfold wp__law_deed
  refine ⟨rfl, ?_⟩
  walk_at "w"
  refine ⟨rfl, ?_⟩
  refine drop_x h ?_
  refine ⟨by simp, ?_⟩
  walk_at "w"
  intro a cls od
  walk_at "w"
  refine ⟨rfl, rfl, rfl, rfl, ?_⟩
  exact ⟨by show 2 ≤ 100000; decide, rfl, k⟩
theorem deed3_v {rs : List MR} {j : Nat} {r : MR} {d : D} {q : D → List Mu → Prop} {x : DX → List Mu → Prop} (hr : rs[j]? = some r) (ok : OkR r) (hc : r.cnt ≤ 300) (k : q (.tup [.str "told", .str (Txt.join "\n" r.lines)]) [.va (.tup (oMs rs))]) : wp__law_deed [.va (.tup (oMs rs))] [.int 3, .int (j : Nat), d] q x := by
  unfold wp__law_deed
  refine ⟨rfl, ?_⟩
  walk_at "w"
  refine ⟨⟨rfl, rfl, rfl⟩, ?_⟩
  walk_at "w"
  refine ⟨rfl, ?_⟩
  refine sget_v hr ?_
  refine strM_row ok hc ?_
  refine ⟨by show 2 ≤ 100000; decide, rfl, ?_⟩
  walk_at "w"
  exact ⟨rfl, k⟩
theorem deed3_x {rs : List MR} {i : Int} {d : D} {q : D → List Mu → Prop} {x : DX → List Mu → Prop} (h : i < 0 ∨ (rs.length : Nat) ≤ i) (k : q (nonE i) [.va (.tup (oMs rs))]) : wp__law_deed [.va (.tup (oMs rs))] [.int 3, .int i, d] q x := by
  unfold wp__law_deed
  refine ⟨rfl, ?_⟩
  walk_at "w"
  refine ⟨⟨rfl, rfl, rfl⟩, ?_⟩
  walk_at "w"
  refine ⟨rfl, ?_⟩
  refine sget_x h ?_
  refine ⟨fun d e => by cases e; rfl, by simp, ?_⟩
  walk_at "w"
  intro a cls od
  walk_at "w"
  refine ⟨rfl, rfl, rfl, rfl, ?_⟩
  exact ⟨by show 2 ≤ 100000; decide, rfl, k⟩
def begD (d : D) : Prop := (d = .non ∨ d = .int 3 ∨ d = .str "stop" ∨ d = .lst [MR.stop.o, .int 3] ∨ d = .tup [.non] ∨ d = MR.stop.o) ∨ ∃ rs ks, d = pgO rs ks
theorem bad_rows {d : D} (h : begD d) (k : x ⟨4, some (.str "rows")⟩) : wp_rows_of [d] q x := by
  unfold wp_rows_of
  refine ⟨rfl, ?_⟩
  rcases h with (rfl | rfl | rfl | rfl | rfl | rfl) | ⟨rs, ks, rfl⟩
  · walk_at "w"
    exact k
  · walk_at "w"
    exact k
  · walk_at "w"
    exact k
  · rw [MR.o]
    walk_at "w"
    refine ⟨by show 0 < 100000; decide, ?_⟩
    walk_at "w"
    refine ⟨by show 1 < 100000; decide, ?_⟩
    walk_at "w"
    refine ⟨[true, false], rfl, ?_⟩
    walk_at "w"
    exact k
  · walk_at "w"
    refine ⟨by show 0 < 100000; decide, ?_⟩
    walk_at "w"
    refine ⟨[false], rfl, ?_⟩
    walk_at "w"
    exact k
  · rw [MR.o]
    walk_at "w"
    refine ⟨by decide, ?_⟩
    walk_at "w"
    exact k
  · unfold pgO
    walk_at "w"
    refine ⟨by decide, ?_⟩
    walk_at "w"
    exact k
theorem begun_v {d : D} (h : begD d) (k : q (.str "rows")) : wp__law_begun [d] q x := by
  unfold wp__law_begun
  refine ⟨rfl, ?_⟩
  walk_at "w"
  unfold wp_Sheet_init
  refine .inl ⟨rfl, ?_⟩
  walk_at "w"
  refine bad_rows h ?_
  refine ⟨by simp, ?_⟩
  walk_at "w"
  intro a cls od
  walk_at "w"
  refine ⟨rfl, rfl, rfl, rfl, ?_⟩
  exact k
theorem alike_v {rs : List MR} (ok : OkM rs) (hc : cntM rs ≤ 19) (hd : depM rs ≤ 8) (k : q (.bl true)) : wp__law_alike [shO rs, .lst (rs.map MR.d)] q x := by
  have ml := cntM_len rs
  unfold wp__law_alike
  refine ⟨rfl, ?_⟩
  refine seq_by (fun env => env = [.va (shO rs), .va (.lst (rs.map MR.d)), .un, .un]) (fun e' _ _ _ _ hnx => ?_) ?_
  · walk_at "w"
    refine ⟨rfl, ?_⟩
    refine slen_v ?_
    refine ⟨⟨by omega, by omega⟩, ?_⟩
    walk_at "w"
    rw [List.length_map, beq_self_eq_true]
    walk_at "w"
    refine ⟨rfl, ?_⟩
    refine made_v ok hc hd fun ks hk => ?_
    walk_at "w"
    refine ⟨rfl, ?_⟩
    refine pstr_v ok (by omega) ?_
    walk_at "w"
    refine (lines_v 20).2 rs _ (.inr rfl) ok (by omega) (by omega) ?_
    refine ⟨_, .inl rfl, lines_sz ok (by omega), ?_⟩
    refine ne_same ?_
    exact hnx _ rfl
  rintro _ rfl
  walk_at "w"
  have e1 : enD (rs.map MR.d) = rs.zipIdx.map fun p => D.tup [.int (p.2 : Int), p.1.d] := by
    unfold enD
    rw [List.zipIdx_map, List.map_map]
    rfl
  rw [e1]
  refine lc_filter (φ := fun p : MR × Nat => D.tup [.int (p.2 : Int), p.1.d]) (fun _ => false) (fun _ => D.int 1) rs.zipIdx [] (fun p hp kk n h1 h0 => ?_) (by simp only [List.length_nil, List.length_zipIdx]; omega) ?_
  · have hp := List.mem_zipIdx_iff_getElem?.mp hp
    have hr := List.mem_of_getElem? hp
    have okr := okM_mem ok _ hr
    have h2 := dep_mem hr
    have h3 := cnt_mem hr
    walk_at "w"
    refine ⟨rfl, ?_⟩
    refine sget_v hp ?_
    walk_at "w"
    refine row_of_v 9 p.1 okr (by omega) (by omega) ?_
    refine eqM_same okr ?_
    exact h0 rfl
  rw [show (rs.zipIdx.filter fun _ => false) = [] by simp]
  walk_at "w"
  refine ⟨by decide, ?_⟩
  exact k
theorem sheet_L {rs : List MR} {q : List D → Prop} (hl : rs.length ≤ 1000) (k : q [.tup (oMs rs)]) : wpL_Sheet_init (oMs rs) q := by
  unfold wpL_Sheet_init wpIL t1_Sheet_init t2_Sheet_init
  walk_at "w"
  refine rows_of_l hl ?_
  refine ⟨rfl, rfl, ?_⟩
  refine ⟨_, _, rfl, rfl, by rw [D.nld]; exact nld_rs rs, ?_⟩
  exact ⟨rfl, rfl, k⟩
theorem parts_at {ms : List MR} {j : Nat} (hj : j < ms.length) (ok : OkM ms) : (OkM (ms.take j) ∧ OkM (ms.drop (j + 1))) ∧ cntM (ms.take j) + cntM (ms.drop (j + 1)) ≤ cntM ms ∧ depM (ms.take j) ≤ depM ms ∧ depM (ms.drop (j + 1)) ≤ depM ms := by
  have e : ms = ms.take j ++ (ms[j] :: ms.drop (j + 1)) := by rw [← List.drop_eq_getElem_cons hj, List.take_append_drop]
  have hc := congrArg cntM e
  have hd := congrArg depM e
  rw [cntM_app, cntM] at hc
  rw [depM_app, depM] at hd
  have all : ∀ {l : List MR}, (∀ r ∈ l, OkR r) → OkM l := fun {l} h => by
    induction l with
    | nil => trivial
    | cons a l ih => exact ⟨h a (List.mem_cons_self ..), ih fun r hr => h r (List.mem_cons_of_mem _ hr)⟩
  refine ⟨⟨all fun r hr => okM_mem ok r (List.mem_of_mem_take hr), all fun r hr => okM_mem ok r (List.mem_of_mem_drop hr)⟩, by omega, by omega, by omega⟩
theorem ne_non (k : q (.bl false)) : neD .non .non q x := by
  show eqP .non .non _
  unfold eqP
  exact ⟨_, _, rfl, rfl, rfl, rfl, k⟩
theorem ne_si {s : Str} {i : Int} (hs : lo s) (k : q (.bl false)) : neD (.tup [.str s, .int i]) (.tup [.str s, .int i]) q x := by
  show eqP _ _ _
  unfold eqP
  refine ⟨.tuple [.str s, .int i], .tuple [.str s, .int i], by simp [D.py, D.pys], by simp [D.py, D.pys], ?_, ?_, ?_⟩
  · unfold SeqAt.shaped
    simp [PyData.canLay0, PyData.canLayAll0, PyData.depth, PyData.depthAll, lo_ok hs]
  · unfold SeqAt.shaped
    simp [PyData.canLay0, PyData.canLayAll0, PyData.depth, PyData.depthAll, lo_ok hs]
  · simpa [PyData.eqv, PyData.eqvAll] using k
theorem ne_ss {s s2 : Str} (hs : lo s) (hs2 : lo s2) (k : q (.bl false)) : neD (.tup [.str s, .str s2]) (.tup [.str s, .str s2]) q x := by
  show eqP _ _ _
  unfold eqP
  refine ⟨.tuple [.str s, .str s2], .tuple [.str s, .str s2], by simp [D.py, D.pys], by simp [D.py, D.pys], ?_, ?_, ?_⟩
  · unfold SeqAt.shaped
    simp [PyData.canLay0, PyData.canLayAll0, PyData.depth, PyData.depthAll, lo_ok hs, lo_ok hs2]
  · unfold SeqAt.shaped
    simp [PyData.canLay0, PyData.canLayAll0, PyData.depth, PyData.depthAll, lo_ok hs, lo_ok hs2]
  · simpa [PyData.eqv, PyData.eqvAll] using k
theorem lcut {ds : List D} {j : Nat} (hj : j < ds.length) : cutL ds none (some (j : Int)) = ds.take j ∧ cutL ds (some ((j : Int) + 1)) none = ds.drop (j + 1) := by
  unfold cutL
  have e1 : HT.sIx ds.length ds.length (some (j : Int)) = j := by
    unfold HT.sIx
    dsimp only
    rw [if_neg (by omega)]
    simp only [Int.toNat_natCast]
    omega
  have e2 : HT.sIx ds.length 0 (some ((j : Int) + 1)) = j + 1 := by
    unfold HT.sIx
    dsimp only
    rw [if_neg (by omega), show ((j : Int) + 1).toNat = j + 1 by omega]
    omega
  have e0 : HT.sIx ds.length 0 none = 0 := rfl
  have e3 : HT.sIx ds.length ds.length none = ds.length := rfl
  rw [e1, e2, e0, e3]
  constructor
  · rw [List.drop_zero, Nat.sub_zero]
  · rw [List.take_of_length_le (by simp)]
theorem ifMC_at {f : D → D → DK} {tm : DM} {tb : DE} {t u : DS} {env env2 : List Sl} {e : DEnds} {d d2 : D} (hm : ∀ (q' : D → List Sl → Prop) (x' : List Sl → DX → Prop), q' d env2 → tm env q' x') (hb : ∀ (q' : D → Prop) (x' : DX → Prop), q' d2 → tb env2 q' x')
    (hf : ∀ (q' : D → Prop) (x' : DX → Prop), q' (.bl false) → f d d2 q' x') (k : u env2 e) : dIfMC f tm tb t u env e := by
  unfold dIfMC
  exact hm _ _ (hb _ _ (hf _ _ k))
theorem law_holds : w_law := by
  unfold w_law
  refine seq_by (fun env => ∃ (ns : List Str), (ns ≠ [] ∧ ns.length ≤ 4 ∧ ∀ n ∈ ns, isNm n) ∧ env = [.un, .dl, .va (.lst (ns.map .str)), .un, .un, .un, .un, .un, .un, .un, .un, .un, .un, .un, .un, .un, .un, .un]) (fun e' _ _ _ _ hnx => ?_) ?_
  · walk_at "w"
    refine ⟨by decide, sm_of (by decide) (by decide), fun r r0 r1 => ?_⟩
    walk_at "w"
    obtain ⟨m, rfl⟩ := Int.eq_ofNat_of_zero_le r0
    rw [show (1 : Int) + ((m : Nat) : Int) = ((1 + m : Nat) : Int) by omega]
    exact words_ok (m := 1 + m) (by omega) fun ns hl hn => hnx _ ⟨ns, ⟨fun z => by rw [z] at hl; simp at hl; omega, by omega, hn⟩, rfl⟩
  rintro _ ⟨ns, ⟨n0, nl, hn⟩, rfl⟩
  generalize ens : Sl.va (.lst (ns.map .str)) = vns
  refine seq_by (fun env => ∃ (as : List MR), (OkM as ∧ cntM as ≤ 4 ∧ depM as ≤ 3) ∧ env = [.un, .dl, vns, .va (.lst (as.map MR.d)), .un, .un, .un, .un, .un, .un, .un, .un, .un, .un, .un, .un, .un, .un]) (fun e' _ _ _ _ hnx => ?_) ?_
  · subst ens
    walk_at "w"
    refine rows_ok n0 (by omega) hn (by decide) (by decide) 9 4 2 (by decide) (by decide) (by decide) fun as oa ca da => ?_
    exact hnx _ ⟨as, ⟨oa, ca, by omega⟩, rfl⟩
  rintro _ ⟨as, ⟨oa, ca, da⟩, rfl⟩
  have la := cntM_len as
  refine seq_by (fun env => env = [.un, .dl, vns, .va (.lst (as.map MR.d)), .ow (oMs as), .un, .un, .un, .un, .un, .un, .un, .un, .un, .un, .un, .un, .un]) (fun e' _ _ _ _ hnx => ?_) ?_
  · walk_at "w"
    refine lc_map (φ := MR.d) MR.o as (fun r hr kk m hk => ?_) (by omega) ?_
    · have h1 := dep_mem hr
      have h2 := cnt_mem hr
      walk_at "w"
      exact row_of_v 9 r (okM_mem oa r hr) (by omega) (by omega) hk
    rw [← oMs_map]
    exact ⟨by show 4 < 18; decide, hnx _ rfl⟩
  rintro _ rfl
  refine seq_by (fun env => ∃ k1, NmR as k1 ∧ env = [.un, .dl, vns, .va (.lst (as.map MR.d)), .ow (oMs as), .mu false 19 [.va (.tup (oMs as))], .va (pgO as k1), .un, .un, .un, .un, .un, .un, .un, .un, .un, .un, .un]) (fun e' _ _ _ _ hnx => ?_) ?_
  · walk_at "w"
    refine sheet_L (by omega) ?_
    walk_at "w"
    refine prog_L oa (by omega) (by omega) fun k1 h1 => ?_
    exact ⟨⟨by show 5 < 18; decide, by show 18 ≤ 1000; decide, nob_pg as k1⟩, hnx _ ⟨k1, h1, rfl⟩⟩
  rintro _ ⟨k1, h1, rfl⟩
  refine seq_by (fun env => env = [.un, .dl, vns, .va (.lst (as.map MR.d)), .ow (oMs as ++ [MR.stop.o]), .mu false 19 [.va (.tup (oMs as))], .va (pgO as k1), .un, .un, .un, .un, .un, .un, .un, .un, .un, .un, .un]) (fun e' _ _ _ _ hnx => ?_) ?_
  · walk_at "w"
    refine stop_v ?_
    exact ⟨by rw [oMs_len]; omega, hnx _ rfl⟩
  rintro _ rfl
  generalize ew : Sl.ow (oMs as ++ [MR.stop.o]) = w4
  refine seq_by (fun env => env = [.un, .dl, vns, .va (.lst (as.map MR.d)), w4, .mu false 19 [.va (.tup (oMs as))], .va (pgO as k1), .va (pgO as k1), .va (.str (Txt.join "\n" (linesM as))), .un, .un, .un, .un, .un, .un, .un, .un, .un]) (fun e' _ _ _ _ hnx => ?_) ?_
  · walk_at "w"
    refine ⟨⟨rfl, rfl, rfl⟩, ?_⟩
    walk_at "w"
    refine ⟨rfl, ?_⟩
    refine made_v oa (by omega) (by omega) fun k2 h2 => ?_
    have e2 : k2 = k1 := h2.one h1 fun z => Iff.rfl
    subst e2
    refine ⟨nob_pg as k2, ?_⟩
    walk_at "w"
    refine ⟨rfl, ?_⟩
    refine pstr_v oa (by omega) ?_
    exact hnx _ rfl
  rintro _ rfl
  generalize e8 : Sl.va (.str (Txt.join "\n" (linesM as))) = v8
  generalize e7 : Sl.va (pgO as k1) = v7
  refine seq_by (fun env => ∃ (ms : List MR) (z9 z10 z11 z12 z13 z14 z15 z17 : Sl), (OkM ms ∧ cntM ms ≤ 11 ∧ depM ms ≤ 8) ∧ env = [.un, .dl, vns, .va (.lst (ms.map MR.d)), w4, .mu false 19 [.va (.tup (oMs ms))], v7, v7, v8, z9, z10, z11, z12, z13, z14, z15, .un, z17]) (fun e' _ _ _ _ hnx => ?_) ?_
  · walk_at "w"
    refine ⟨by decide, sm_of (by decide) (by decide), fun r r0 r1 => ?_⟩
    walk_at "w"
    refine ⟨⟨by omega, by omega⟩, ?_⟩
    refine for_range (fun _ env => ∃ (ms : List MR) (z9 z10 z11 z12 z13 z14 z15 z17 : Sl), (OkM ms ∧ cntM ms ≤ 11 ∧ depM ms ≤ 8) ∧ env = [.un, .dl, vns, .va (.lst (ms.map MR.d)), w4, .mu false 19 [.va (.tup (oMs ms))], v7, v7, v8, z9, z10, z11, z12, z13, z14, z15, .un, z17]) ⟨as, _, _, _, _, _, _, _, _, ⟨oa, by omega, by omega⟩, rfl⟩ ?_ (fun env h => hnx env h)
    rintro kk _ e2 hkk ⟨ms, z9, z10, z11, z12, z13, z14, z15, z17, ⟨om, cm, dm⟩, rfl⟩ hrt hbk hex hct hN
    have lm := cntM_len ms
    have envs : ∀ s : Sl, s = s := fun _ => rfl
    refine seq_by (fun env => ∃ (z9 : Sl) (f i : Int), ((0 ≤ f ∧ f < 4) ∧ -1 ≤ i ∧ i < (ms.length : Nat) + 1) ∧ env = [.un, .dl, vns, .va (.lst (ms.map MR.d)), w4, .mu false 19 [.va (.tup (oMs ms))], v7, v7, v8, z9, .va (.int f), .va (.int i), z12, z13, z14, z15, .un, z17]) (fun e3 hr3 hb3 hc3 hx3 hnx => ?_) ?_
    · walk_at "w"
      refine ⟨by decide, sm_of (by decide) (by decide), fun f f0 f1 => ?_⟩
      walk_at "w"
      rw [List.length_map]
      refine ⟨by omega, sm_of (by omega) (by omega), fun i i0 i1 => ?_⟩
      exact hnx _ ⟨_, f, i - 1, ⟨⟨f0, f1⟩, by omega, by omega⟩, rfl⟩
    rintro _ ⟨z9, f, i, ⟨⟨f0, f1⟩, i0, i1⟩, rfl⟩
    refine seq_by (fun env => ∃ o : MR, (OkR o ∧ o.cnt ≤ 2 ∧ o.dep ≤ 2) ∧ env = [.un, .dl, vns, .va (.lst (ms.map MR.d)), w4, .mu false 19 [.va (.tup (oMs ms))], v7, v7, v8, z9, .va (.int f), .va (.int i), .va o.d, z13, z14, z15, .un, z17]) (fun e3 hr3 hb3 hc3 hx3 hnx => ?_) ?_
    · subst ens
      walk_at "w"
      refine put_ok n0 (by omega) hn (by decide) (by decide) fun n e as2 hn2 hf2 => ?_
      walk_at "w"
      refine ⟨by show 1 ≤ 100000; decide, ?_⟩
      walk_at "w"
      refine ⟨by show 1 ≤ 100000; decide, ?_⟩
      refine ⟨by show 1 ≤ 100000; decide, ?_⟩
      refine ⟨by show 3 ≤ 100000; decide, ?_⟩
      refine ⟨by show 3 ≤ 100000; decide, ?_⟩
      walk_at "w"
      refine ⟨by decide, sm_of (by decide) (by decide), fun r r0 r1 => ?_⟩
      obtain rfl | rfl | rfl : r = 0 ∨ r = 1 ∨ r = 2 := by omega
      · refine ⟨_, rfl, ?_⟩
        exact hnx _ ⟨MR.put n e as2, ⟨by rw [OkR]; exact ⟨hn2, hf2⟩, by rw [MR.cnt]; decide, by rw [MR.dep]; decide⟩, rfl⟩
      · refine ⟨_, rfl, ?_⟩
        refine hnx _ ⟨MR.stop, ⟨by rw [OkR]; trivial, by rw [MR.cnt]; decide, by rw [MR.dep]; decide⟩, ?_⟩
        rw [MR.d]
        rfl
      · refine ⟨_, rfl, ?_⟩
        refine hnx _ ⟨MR.times 2 [MR.stop], ⟨by rw [OkR]; exact ⟨⟨by decide, by decide⟩, by rw [OkM, OkR]; exact ⟨trivial, trivial⟩⟩, by rw [MR.cnt, cntM, cntM, MR.cnt]; decide, by rw [MR.dep, depM, depM, MR.dep]; decide⟩, ?_⟩
        rw [MR.d, dMs, dMs, MR.d]
        rfl
    rintro _ ⟨o, ⟨oo, co, do_⟩, rfl⟩
    refine seq_by (fun env => env = [.un, .dl, vns, .va (.lst (ms.map MR.d)), w4, .mu false 19 [.va (.tup (oMs ms))], v7, v7, v8, z9, .va (.int f), .va (.int i), .va o.d, .va o.o, .va .non, z15, .un, z17]) (fun e3 hr3 hb3 hc3 hx3 hnx => ?_) ?_
    · walk_at "w"
      refine row_of_v 9 o oo (by omega) (by omega) ?_
      exact hnx _ rfl
    rintro _ rfl
    refine seq_by (fun env => ∃ v12 v13 : D, ((v12 = o.d ∧ v13 = o.o) ∨ (v12 = .non ∧ badD v13)) ∧ env = [.un, .dl, vns, .va (.lst (ms.map MR.d)), w4, .mu false 19 [.va (.tup (oMs ms))], v7, v7, v8, z9, .va (.int f), .va (.int i), .va v12, .va v13, .va .non, z15, .un, z17]) (fun e3 hr3 hb3 hc3 hx3 hnx => ?_) ?_
    · walk_at "w"
      refine ⟨by decide, sm_of (by decide) (by decide), fun r r0 r1 => ?_⟩
      walk_at "w"
      refine iteB_by (fun c => ?_) (fun c => ?_)
      · walk_at "w"
        refine stop_v ?_
        walk_at "w"
        refine ⟨by show 1 ≤ 100000; decide, ?_⟩
        walk_at "w"
        refine prog_0 fun k0 h0 => ?_
        walk_at "w"
        refine ⟨by show 4 ≤ 100000; decide, ?_⟩
        walk_at "w"
        refine ⟨by decide, sm_of (by decide) (by decide), fun r2 r20 r21 => ?_⟩
        obtain rfl | rfl | rfl | rfl : r2 = 0 ∨ r2 = 1 ∨ r2 = 2 ∨ r2 = 3 := by omega
        · exact ⟨_, rfl, hnx _ ⟨_, _, .inr ⟨rfl, .inl (by simp)⟩, rfl⟩⟩
        · exact ⟨_, rfl, hnx _ ⟨_, _, .inr ⟨rfl, .inl (List.mem_cons_of_mem _ (List.mem_cons_self ..))⟩, rfl⟩⟩
        · exact ⟨_, rfl, hnx _ ⟨_, _, .inr ⟨rfl, .inl (List.mem_cons_of_mem _ (List.mem_cons_of_mem _ (by rw [MR.o]; exact List.mem_cons_self ..)))⟩, rfl⟩⟩
        · refine ⟨_, rfl, hnx _ ⟨_, _, .inr ⟨rfl, .inr ⟨k0, ?_⟩⟩, rfl⟩⟩
          unfold pgO
          rw [oMs, flatM, linesM]
          rfl
      · exact hnx _ ⟨_, _, .inl ⟨rfl, rfl⟩, rfl⟩
    rintro _ ⟨v12, v13, hv, rfl⟩
    refine seq_by (fun env => ∃ (f : Int) (z17 : Sl), ((0 ≤ f ∧ f < 4) ∧ (f < 2 → cntM ms ≤ 9)) ∧ env = [.un, .dl, vns, .va (.lst (ms.map MR.d)), w4, .mu false 19 [.va (.tup (oMs ms))], v7, v7, v8, z9, .va (.int f), .va (.int i), .va v12, .va v13, .va .non, z15, .un, z17]) (fun e3 hr3 hb3 hc3 hx3 hnx => ?_) ?_
    · walk_at "w"
      refine iteB_by (fun c => ?_) (fun c => ?_)
      · have c := of_decide_eq_true c
        walk_at "w"
        refine lc_map (φ := MR.d) (fun r => .int (r.cnt : Nat)) ms (fun r hr kk m hk => ?_) (by omega) ?_
        · walk_at "w"
          have h1 := dep_mem hr
          have h2 := cnt_mem hr
          exact count_v 9 r (by omega) (by omega) hk
        walk_at "w"
        refine ⟨ms.map fun r => ((r.cnt : Nat) : Int), .inl (by rw [List.map_map]; rfl), ?_⟩
        rw [sum_cnt]
        walk_at "w"
        refine iteB_by (fun c2 => ?_) (fun c2 => ?_)
        · exact hnx _ ⟨2, _, ⟨⟨by decide, by decide⟩, fun z => absurd z (by decide)⟩, rfl⟩
        · have c2 := of_decide_eq_false c2
          exact hnx _ ⟨f, _, ⟨⟨f0, f1⟩, fun _ => by omega⟩, rfl⟩
      · have c := of_decide_eq_false c
        exact hnx _ ⟨f, _, ⟨⟨f0, f1⟩, fun z => absurd z c⟩, rfl⟩
    clear f0 f1 f z17
    rintro _ ⟨f, z17, ⟨⟨f0, f1⟩, hf⟩, rfl⟩
    refine seq_by (fun env => env = [.un, .dl, vns, .va (.lst (ms.map MR.d)), w4, .mu false 19 [.va (.tup (oMs ms))], v7, v7, v8, z9, .va (.int f), .va (.int i), .va v12, .va v13, .va .non, .va (.bl (decide (0 ≤ i) && decide (i < (ms.length : Nat)))), .un, z17]) (fun e3 hr3 hb3 hc3 hx3 hnx => ?_) ?_
    · walk_at "w"
      by_cases c : 0 ≤ i
      · rw [decide_eq_true c] at hnx ⊢
        walk_at "w"
        rw [List.length_map]
        exact hnx _ rfl
      · rw [decide_eq_false c] at hnx ⊢
        exact hnx _ rfl
    rintro _ rfl
    refine seq_by (fun env => ∃ (ms' : List MR) (d z12 : D), (OkM ms' ∧ cntM ms' ≤ 11 ∧ depM ms' ≤ 8) ∧ (∀ (q' : D → List Mu → Prop) (x' : DX → List Mu → Prop), q' d [.va (.tup (oMs ms'))] → wp__law_deed [.va (.tup (oMs ms))] [.int f, .int i, v13] q' x') ∧ (∀ (q' : D → Prop) (x' : DX → Prop), q' (.bl false) → neD d d q' x') ∧ env = [.un, .dl, vns, .va (.lst (ms'.map MR.d)), w4, .mu false 19 [.va (.tup (oMs ms))], v7, v7, v8, z9, .va (.int f), .va (.int i), .va z12, .va v13, .va d, .va (.bl (decide (0 ≤ i) && decide (i < (ms.length : Nat)))), .un, z17]) (fun e3 hr3 hb3 hc3 hx3 hnx => ?_) ?_
    · have ht : ∃ ds, o.d = .tup ds := by cases o <;> exact ⟨_, by rw [MR.d]⟩
      obtain ⟨ods, ht⟩ := ht
      have hjj : ∀ c : 0 ≤ i ∧ i < (ms.length : Nat), ∃ j : Nat, i = (j : Nat) ∧ j < ms.length := fun c => ⟨i.toNat, by omega, by omega⟩
      obtain rfl | rfl | rfl | rfl : f = 0 ∨ f = 1 ∨ f = 2 ∨ f = 3 := by omega
      · have hc := hf (by decide)
        rcases hv with ⟨rfl, rfl⟩ | ⟨rfl, hb⟩
        · rw [ht]
          walk_at "w"
          refine ⟨by show 1 ≤ 100000; decide, ?_⟩
          walk_at "w"
          refine ⟨by rw [List.length_map]; show ms.length + 1 ≤ 100000; omega, ?_⟩
          rw [← ht, show ms.map MR.d ++ [o.d] = (ms ++ [o]).map MR.d by rw [List.map_append]; rfl]
          refine hnx _ ⟨ms ++ [o], .non, _, ⟨okM_app om ⟨oo, trivial⟩, ?_, ?_⟩, fun q' x' h => deed_0 (by omega) h, fun q' x' h => ne_non h, rfl⟩
          · rw [cntM_app, cntM, cntM]; omega
          · rw [depM_app, depM, depM]; omega
        · walk_at "w"
          refine ⟨by show 2 ≤ 100000; decide, ?_⟩
          exact hnx _ ⟨ms, rowsE, _, ⟨om, cm, dm⟩, fun q' x' h => deed_y hb h, fun q' x' h => ne_ss (by unfold lo; decide +kernel) (by unfold lo; decide +kernel) h, rfl⟩
      · by_cases c : 0 ≤ i ∧ i < (ms.length : Nat)
        · obtain ⟨j, rfl, hj⟩ := hjj c
          rw [decide_eq_true c.1, decide_eq_true c.2] at hnx ⊢
          have hc := hf (by decide)
          rcases hv with ⟨rfl, rfl⟩ | ⟨rfl, hb⟩
          · obtain ⟨⟨p1, p2⟩, p3, p4, p5⟩ := parts_at hj om
            rw [ht]
            walk_at "w"
            rw [(lcut (by rw [List.length_map]; exact hj)).1]
            refine ⟨by show 1 ≤ 100000; decide, ?_⟩
            walk_at "w"
            refine ⟨by simp only [List.length_take, List.length_map, List.length_cons, List.length_nil]; omega, ?_⟩
            walk_at "w"
            rw [(lcut (by rw [List.length_map]; exact hj)).2]
            refine ⟨by simp only [List.length_append, List.length_take, List.length_drop, List.length_map, List.length_cons, List.length_nil]; omega, ?_⟩
            rw [← ht, show (ms.map MR.d).take j ++ [o.d] ++ (ms.map MR.d).drop (j + 1) = (ms.take j ++ [o] ++ ms.drop (j + 1)).map MR.d by rw [List.map_append, List.map_append, List.map_take, List.map_drop]; rfl]
            refine hnx _ ⟨ms.take j ++ [o] ++ ms.drop (j + 1), .non, _, ⟨okM_app (okM_app p1 ⟨oo, trivial⟩) p2, ?_, ?_⟩, fun q' x' h => deed1_v (by omega) hj h, fun q' x' h => ne_non h, rfl⟩
            · rw [cntM_app, cntM_app, cntM, cntM]; omega
            · rw [depM_app, depM_app, depM, depM]; omega
          · walk_at "w"
            refine ⟨by show 2 ≤ 100000; decide, ?_⟩
            exact hnx _ ⟨ms, rowsE, _, ⟨om, cm, dm⟩, fun q' x' h => deed1_y hj hb h, fun q' x' h => ne_ss (by unfold lo; decide +kernel) (by unfold lo; decide +kernel) h, rfl⟩
        · have c2 : (decide (0 ≤ i) && decide (i < (ms.length : Nat))) = false := by rw [← Bool.decide_and]; exact decide_eq_false c
          rw [c2] at hnx ⊢
          walk_at "w"
          refine ⟨by show 2 ≤ 100000; decide, ?_⟩
          exact hnx _ ⟨ms, nonE i, _, ⟨om, cm, dm⟩, fun q' x' h => deed1_x (by omega) h, fun q' x' h => ne_si (by unfold lo; decide +kernel) h, rfl⟩
      · by_cases c : 0 ≤ i ∧ i < (ms.length : Nat)
        · obtain ⟨j, rfl, hj⟩ := hjj c
          rw [decide_eq_true c.1, decide_eq_true c.2] at hnx ⊢
          obtain ⟨⟨p1, p2⟩, p3, p4, p5⟩ := parts_at hj om
          walk_at "w"
          rw [(lcut (by rw [List.length_map]; exact hj)).1, (lcut (by rw [List.length_map]; exact hj)).2]
          refine ⟨by simp only [List.length_take, List.length_drop, List.length_map]; omega, ?_⟩
          rw [show (ms.map MR.d).take j ++ (ms.map MR.d).drop (j + 1) = (ms.take j ++ ms.drop (j + 1)).map MR.d by rw [List.map_append, List.map_take, List.map_drop]]
          refine hnx _ ⟨ms.take j ++ ms.drop (j + 1), .non, _, ⟨okM_app p1 p2, ?_, ?_⟩, fun q' x' h => deed2_v (by omega) hj h, fun q' x' h => ne_non h, rfl⟩
          · rw [cntM_app]; omega
          · rw [depM_app]; omega
        · have c2 : (decide (0 ≤ i) && decide (i < (ms.length : Nat))) = false := by rw [← Bool.decide_and]; exact decide_eq_false c
          rw [c2] at hnx ⊢
          walk_at "w"
          refine ⟨by show 2 ≤ 100000; decide, ?_⟩
          exact hnx _ ⟨ms, nonE i, _, ⟨om, cm, dm⟩, fun q' x' h => deed2_x (by omega) h, fun q' x' h => ne_si (by unfold lo; decide +kernel) h, rfl⟩
      · by_cases c : 0 ≤ i ∧ i < (ms.length : Nat)
        · obtain ⟨j, rfl, hj⟩ := hjj c
          rw [decide_eq_true c.1, decide_eq_true c.2] at hnx ⊢
          have hr : ms[j]? = some ms[j] := List.getElem?_eq_getElem hj
          have hm := List.mem_of_getElem? hr
          have okr := okM_mem om _ hm
          have h2 := cnt_mem hm
          have h3 := dep_mem hm
          walk_at "w"
          refine ⟨_, atI_at (k := j) rfl (by rw [List.getElem?_map, hr]; rfl), ?_⟩
          walk_at "w"
          refine (lines_v 20).1 _ okr (by omega) (by omega) ?_
          refine ⟨_, .inl rfl, rlines_sz okr (by omega), ?_⟩
          refine ⟨by show 2 ≤ 100000; decide, ?_⟩
          exact hnx _ ⟨ms, _, _, ⟨om, cm, dm⟩, fun q' x' h => deed3_v hr okr (by omega) h, fun q' x' h => ne_ss (by unfold lo; decide +kernel) (lo_join (by unfold lo; decide +kernel) (lo_lines okr)) h, rfl⟩
        · have c2 : (decide (0 ≤ i) && decide (i < (ms.length : Nat))) = false := by rw [← Bool.decide_and]; exact decide_eq_false c
          rw [c2] at hnx ⊢
          walk_at "w"
          refine ⟨by show 2 ≤ 100000; decide, ?_⟩
          exact hnx _ ⟨ms, nonE i, _, ⟨om, cm, dm⟩, fun q' x' h => deed3_x (by omega) h, fun q' x' h => ne_si (by unfold lo; decide +kernel) h, rfl⟩
    rintro _ ⟨ms', d, z12, ⟨om', cm', dm'⟩, hdd, hne, rfl⟩
    refine seq_by (fun env => env = [.un, .dl, vns, .va (.lst (ms'.map MR.d)), w4, .mu false 19 [.va (.tup (oMs ms'))], v7, v7, v8, z9, .va (.int f), .va (.int i), .va z12, .va v13, .va d, .va (.bl (decide (0 ≤ i) && decide (i < (ms.length : Nat)))), .un, z17]) (fun e3 hr3 hb3 hc3 hx3 hnx => ?_) ?_
    · refine ifMC_at (d := d) (d2 := d) (env2 := [.un, .dl, vns, .va (.lst (ms'.map MR.d)), w4, .mu false 19 [.va (.tup (oMs ms'))], v7, v7, v8, z9, .va (.int f), .va (.int i), .va z12, .va v13, .va d, .va (.bl (decide (0 ≤ i) && decide (i < (ms.length : Nat)))), .un, z17]) (fun q' x' h => ?_) (fun q' x' h => h) hne (hnx _ rfl)
      walk_at "w"
      refine ⟨rfl, ?_⟩
      refine hdd _ _ ?_
      exact h
    rintro _ rfl
    walk_at "w"
    refine ⟨⟨rfl, rfl, rfl⟩, ?_⟩
    walk_at "w"
    refine alike_v om' (by omega) (by omega) ?_
    refine ⟨rfl, ?_⟩
    exact hN _ ⟨ms', _, _, _, _, _, _, _, _, ⟨om', cm', dm'⟩, rfl⟩
  rintro _ ⟨ms, z9, z10, z11, z12, z13, z14, z15, z17, ⟨om, cm, dm⟩, rfl⟩
  subst e8 e7
  walk_at "w"
  refine stop_v ?_
  walk_at "w"
  refine ⟨by show 2 ≤ 100000; decide, ?_⟩
  refine ⟨by show 1 ≤ 100000; decide, ?_⟩
  refine stop_v ?_
  walk_at "w"
  refine ⟨by show 7 ≤ 100000; decide, ?_⟩
  refine for_map (φ := fun d : D => d) (fun pre env => ∃ z16, env = [.un, .dl, vns, .va (.lst (ms.map MR.d)), w4, .mu false 19 [.va (.tup (oMs ms))], .va (pgO as k1), .va (pgO as k1), .va (.str (Txt.join "\n" (linesM as))), z9, z10, z11, z12, z13, z14, z15, z16, z17]) [.non, .int 3, .str "stop", .lst [MR.stop.o, .int 3], .tup [.non], pgO as k1, MR.stop.o] ⟨_, rfl⟩ ?_ (fun env h => ?_)
  · rintro pre d suf _ e2 hx ⟨z16, rfl⟩ _ _ _ _ hN
    have hd : d ∈ [D.non, .int 3, .str "stop", .lst [MR.stop.o, .int 3], .tup [.non], pgO as k1, MR.stop.o] := by rw [hx]; simp
    simp only [List.mem_cons, List.not_mem_nil, or_false] at hd
    have hd : begD d := by
      rcases hd with h | h | h | h | h | h | h
      · exact .inl (.inl h)
      · exact .inl (.inr (.inl h))
      · exact .inl (.inr (.inr (.inl h)))
      · exact .inl (.inr (.inr (.inr (.inl h))))
      · exact .inl (.inr (.inr (.inr (.inr (.inl h)))))
      · exact .inr ⟨_, _, h⟩
      · exact .inl (.inr (.inr (.inr (.inr (.inr h)))))
    walk_at "w"
    refine begun_v hd ?_
    walk_at "w"
    exact hN _ ⟨_, rfl⟩
  · obtain ⟨z16, rfl⟩ := h
    walk_at "w"
    refine ⟨rfl, ?_⟩
    refine pstr_v oa (by omega) ?_
    walk_at "w"
    rw [beq_self_eq_true]
    walk_at "w"
    unfold wp_Sheet_init
    refine .inr ⟨rfl, ?_⟩
    walk_at "w"
    refine rows_of_t (rs := []) (by decide) ?_
    refine ⟨rfl, rfl, ?_⟩
    refine ⟨rfl, rfl, ?_⟩
    walk_at "w"
    refine ⟨rfl, ?_⟩
    refine slen_v (rs := []) ?_
    exact ⟨⟨by decide, by decide⟩, rfl⟩

end K15

local macro_rules | `(tactic| walk_at "go") => `(tactic| repeat (first | refine ⟨_, rfl, ?_⟩ | refine ⟨_, _, rfl, rfl, ?_⟩ | refine ⟨rfl, ?_⟩ | refine ⟨_, _, rfl, rfl, ⟨by decide, by decide, by decide⟩, ?_⟩))
local macro_rules | `(tactic| walk_at "w") => `(tactic| conv => whnf)
local macro_rules | `(tactic| walk_at "z") => `(tactic| first | decide | exact Nat.le_of_ble_eq_true rfl | omega | (simp; omega))
local macro_rules | `(tactic| walk_at "i") => `(tactic| repeat (refine ⟨_, rfl, ?_⟩; walk_at "w"))
namespace K15
open PySem PySem.Spec PyProof.Rows L2 Eb
def tbl (K : PySem.W.Frag) (C : Nat → Addr) : Tb := ⟨K, C, fun c => match c with | 9 => ["lines", "inner", "used", "name", "deed", "given"] | 10 => ["lines", "inner", "used"] | 11 => ["test", "rows", "others", "lines", "inner", "used"] | 12 => ["count", "rows", "lines", "inner", "used"] | 14 => ["text", "used", "word", "names"] | 15 => ["text", "used", "test"] | 18 => ["rows", "flat", "lines", "names"] | 19 => ["rows"] | _ => [], fun c => match c with | 7 => "at" | 4 => "word" | _ => ""⟩
section
variable {P : Program} {w : World} {K : PySem.W.Frag} {mg : Str → Option Value} {base : Heap} {F : Nat → Addr} {D : Nat → FuncData} {C I : Nat → Addr}

theorem hf_Sheet (K : PySem.W.Frag) (C : Nat → Addr) : ∀ c', c' ≠ 19 → (tbl K C).fl c' ≠ (tbl K C).fl 19 := by
  intro c h
  unfold tbl
  dsimp only
  split <;> first | exact absurd rfl h | (intro e; simp at e) | (intro e; cases e)
theorem po_Put_lines (T : Txt P w K mg F D C) : PutOk (tbl K C) "lines" 9 0 := ⟨T.cl_Put, T.na_Put_lines, rfl, by decide, by show ((["lines", "inner", "used", "name", "deed", "given"] : List Str).take 0).contains "lines" = false; decide +kernel, by show 0 ≤ 6; decide⟩
theorem fd_Put_lines (T : Txt P w K mg F D C) : FldOk (tbl K C) "lines" 9 0 := ⟨T.cl_Put, T.na_Put_lines, fun vs h => match vs, h with | [_, _, _, _, _, _], _ => rfl⟩
theorem po_Put_inner (T : Txt P w K mg F D C) : PutOk (tbl K C) "inner" 9 1 := ⟨T.cl_Put, T.na_Put_inner, rfl, by decide, by show ((["lines", "inner", "used", "name", "deed", "given"] : List Str).take 1).contains "inner" = false; decide +kernel, by show 1 ≤ 6; decide⟩
theorem fd_Put_inner (T : Txt P w K mg F D C) : FldOk (tbl K C) "inner" 9 1 := ⟨T.cl_Put, T.na_Put_inner, fun vs h => match vs, h with | [_, _, _, _, _, _], _ => rfl⟩
theorem po_Put_used (T : Txt P w K mg F D C) : PutOk (tbl K C) "used" 9 2 := ⟨T.cl_Put, T.na_Put_used, rfl, by decide, by show ((["lines", "inner", "used", "name", "deed", "given"] : List Str).take 2).contains "used" = false; decide +kernel, by show 2 ≤ 6; decide⟩
theorem fd_Put_used (T : Txt P w K mg F D C) : FldOk (tbl K C) "used" 9 2 := ⟨T.cl_Put, T.na_Put_used, fun vs h => match vs, h with | [_, _, _, _, _, _], _ => rfl⟩
theorem po_Put_name (T : Txt P w K mg F D C) : PutOk (tbl K C) "name" 9 3 := ⟨T.cl_Put, T.na_Put_name, rfl, by decide, by show ((["lines", "inner", "used", "name", "deed", "given"] : List Str).take 3).contains "name" = false; decide +kernel, by show 3 ≤ 6; decide⟩
theorem po_Put_deed (T : Txt P w K mg F D C) : PutOk (tbl K C) "deed" 9 4 := ⟨T.cl_Put, T.na_Put_deed, rfl, by decide, by show ((["lines", "inner", "used", "name", "deed", "given"] : List Str).take 4).contains "deed" = false; decide +kernel, by show 4 ≤ 6; decide⟩
theorem po_Put_given (T : Txt P w K mg F D C) : PutOk (tbl K C) "given" 9 5 := ⟨T.cl_Put, T.na_Put_given, rfl, by decide, by show ((["lines", "inner", "used", "name", "deed", "given"] : List Str).take 5).contains "given" = false; decide +kernel, by show 5 ≤ 6; decide⟩
theorem po_Stop_lines (T : Txt P w K mg F D C) : PutOk (tbl K C) "lines" 10 0 := ⟨T.cl_Stop, T.na_Stop_lines, rfl, by decide, by show ((["lines", "inner", "used"] : List Str).take 0).contains "lines" = false; decide +kernel, by show 0 ≤ 3; decide⟩
theorem fd_Stop_lines (T : Txt P w K mg F D C) : FldOk (tbl K C) "lines" 10 0 := ⟨T.cl_Stop, T.na_Stop_lines, fun vs h => match vs, h with | [_, _, _], _ => rfl⟩
theorem po_Stop_inner (T : Txt P w K mg F D C) : PutOk (tbl K C) "inner" 10 1 := ⟨T.cl_Stop, T.na_Stop_inner, rfl, by decide, by show ((["lines", "inner", "used"] : List Str).take 1).contains "inner" = false; decide +kernel, by show 1 ≤ 3; decide⟩
theorem fd_Stop_inner (T : Txt P w K mg F D C) : FldOk (tbl K C) "inner" 10 1 := ⟨T.cl_Stop, T.na_Stop_inner, fun vs h => match vs, h with | [_, _, _], _ => rfl⟩
theorem po_Stop_used (T : Txt P w K mg F D C) : PutOk (tbl K C) "used" 10 2 := ⟨T.cl_Stop, T.na_Stop_used, rfl, by decide, by show ((["lines", "inner", "used"] : List Str).take 2).contains "used" = false; decide +kernel, by show 2 ≤ 3; decide⟩
theorem fd_Stop_used (T : Txt P w K mg F D C) : FldOk (tbl K C) "used" 10 2 := ⟨T.cl_Stop, T.na_Stop_used, fun vs h => match vs, h with | [_, _, _], _ => rfl⟩
theorem po_If_test (T : Txt P w K mg F D C) : PutOk (tbl K C) "test" 11 0 := ⟨T.cl_If, T.na_If_test, rfl, by decide, by show ((["test", "rows", "others", "lines", "inner", "used"] : List Str).take 0).contains "test" = false; decide +kernel, by show 0 ≤ 6; decide⟩
theorem po_If_rows (T : Txt P w K mg F D C) : PutOk (tbl K C) "rows" 11 1 := ⟨T.cl_If, T.na_If_rows, rfl, by decide, by show ((["test", "rows", "others", "lines", "inner", "used"] : List Str).take 1).contains "rows" = false; decide +kernel, by show 1 ≤ 6; decide⟩
theorem po_If_others (T : Txt P w K mg F D C) : PutOk (tbl K C) "others" 11 2 := ⟨T.cl_If, T.na_If_others, rfl, by decide, by show ((["test", "rows", "others", "lines", "inner", "used"] : List Str).take 2).contains "others" = false; decide +kernel, by show 2 ≤ 6; decide⟩
theorem po_If_lines (T : Txt P w K mg F D C) : PutOk (tbl K C) "lines" 11 3 := ⟨T.cl_If, T.na_If_lines, rfl, by decide, by show ((["test", "rows", "others", "lines", "inner", "used"] : List Str).take 3).contains "lines" = false; decide +kernel, by show 3 ≤ 6; decide⟩
theorem fd_If_lines (T : Txt P w K mg F D C) : FldOk (tbl K C) "lines" 11 3 := ⟨T.cl_If, T.na_If_lines, fun vs h => match vs, h with | [_, _, _, _, _, _], _ => rfl⟩
theorem po_If_inner (T : Txt P w K mg F D C) : PutOk (tbl K C) "inner" 11 4 := ⟨T.cl_If, T.na_If_inner, rfl, by decide, by show ((["test", "rows", "others", "lines", "inner", "used"] : List Str).take 4).contains "inner" = false; decide +kernel, by show 4 ≤ 6; decide⟩
theorem fd_If_inner (T : Txt P w K mg F D C) : FldOk (tbl K C) "inner" 11 4 := ⟨T.cl_If, T.na_If_inner, fun vs h => match vs, h with | [_, _, _, _, _, _], _ => rfl⟩
theorem po_If_used (T : Txt P w K mg F D C) : PutOk (tbl K C) "used" 11 5 := ⟨T.cl_If, T.na_If_used, rfl, by decide, by show ((["test", "rows", "others", "lines", "inner", "used"] : List Str).take 5).contains "used" = false; decide +kernel, by show 5 ≤ 6; decide⟩
theorem fd_If_used (T : Txt P w K mg F D C) : FldOk (tbl K C) "used" 11 5 := ⟨T.cl_If, T.na_If_used, fun vs h => match vs, h with | [_, _, _, _, _, _], _ => rfl⟩
theorem po_Times_count (T : Txt P w K mg F D C) : PutOk (tbl K C) "count" 12 0 := ⟨T.cl_Times, T.na_Times_count, rfl, by decide, by show ((["count", "rows", "lines", "inner", "used"] : List Str).take 0).contains "count" = false; decide +kernel, by show 0 ≤ 5; decide⟩
theorem po_Times_rows (T : Txt P w K mg F D C) : PutOk (tbl K C) "rows" 12 1 := ⟨T.cl_Times, T.na_Times_rows, rfl, by decide, by show ((["count", "rows", "lines", "inner", "used"] : List Str).take 1).contains "rows" = false; decide +kernel, by show 1 ≤ 5; decide⟩
theorem po_Times_lines (T : Txt P w K mg F D C) : PutOk (tbl K C) "lines" 12 2 := ⟨T.cl_Times, T.na_Times_lines, rfl, by decide, by show ((["count", "rows", "lines", "inner", "used"] : List Str).take 2).contains "lines" = false; decide +kernel, by show 2 ≤ 5; decide⟩
theorem fd_Times_lines (T : Txt P w K mg F D C) : FldOk (tbl K C) "lines" 12 2 := ⟨T.cl_Times, T.na_Times_lines, fun vs h => match vs, h with | [_, _, _, _, _], _ => rfl⟩
theorem po_Times_inner (T : Txt P w K mg F D C) : PutOk (tbl K C) "inner" 12 3 := ⟨T.cl_Times, T.na_Times_inner, rfl, by decide, by show ((["count", "rows", "lines", "inner", "used"] : List Str).take 3).contains "inner" = false; decide +kernel, by show 3 ≤ 5; decide⟩
theorem fd_Times_inner (T : Txt P w K mg F D C) : FldOk (tbl K C) "inner" 12 3 := ⟨T.cl_Times, T.na_Times_inner, fun vs h => match vs, h with | [_, _, _, _, _], _ => rfl⟩
theorem po_Times_used (T : Txt P w K mg F D C) : PutOk (tbl K C) "used" 12 4 := ⟨T.cl_Times, T.na_Times_used, rfl, by decide, by show ((["count", "rows", "lines", "inner", "used"] : List Str).take 4).contains "used" = false; decide +kernel, by show 4 ≤ 5; decide⟩
theorem fd_Times_used (T : Txt P w K mg F D C) : FldOk (tbl K C) "used" 12 4 := ⟨T.cl_Times, T.na_Times_used, fun vs h => match vs, h with | [_, _, _, _, _], _ => rfl⟩
theorem po_Ask_text (T : Txt P w K mg F D C) : PutOk (tbl K C) "text" 14 0 := ⟨T.cl_Ask, T.na_Ask_text, rfl, by decide, by show ((["text", "used", "word", "names"] : List Str).take 0).contains "text" = false; decide +kernel, by show 0 ≤ 4; decide⟩
theorem fd_Ask_text (T : Txt P w K mg F D C) : FldOk (tbl K C) "text" 14 0 := ⟨T.cl_Ask, T.na_Ask_text, fun vs h => match vs, h with | [_, _, _, _], _ => rfl⟩
theorem po_Ask_used (T : Txt P w K mg F D C) : PutOk (tbl K C) "used" 14 1 := ⟨T.cl_Ask, T.na_Ask_used, rfl, by decide, by show ((["text", "used", "word", "names"] : List Str).take 1).contains "used" = false; decide +kernel, by show 1 ≤ 4; decide⟩
theorem fd_Ask_used (T : Txt P w K mg F D C) : FldOk (tbl K C) "used" 14 1 := ⟨T.cl_Ask, T.na_Ask_used, fun vs h => match vs, h with | [_, _, _, _], _ => rfl⟩
theorem po_Ask_word (T : Txt P w K mg F D C) : PutOk (tbl K C) "word" 14 2 := ⟨T.cl_Ask, T.na_Ask_word, rfl, by decide, by show ((["text", "used", "word", "names"] : List Str).take 2).contains "word" = false; decide +kernel, by show 2 ≤ 4; decide⟩
theorem po_Ask_names (T : Txt P w K mg F D C) : PutOk (tbl K C) "names" 14 3 := ⟨T.cl_Ask, T.na_Ask_names, rfl, by decide, by show ((["text", "used", "word", "names"] : List Str).take 3).contains "names" = false; decide +kernel, by show 3 ≤ 4; decide⟩
theorem po_Not_text (T : Txt P w K mg F D C) : PutOk (tbl K C) "text" 15 0 := ⟨T.cl_Not, T.na_Not_text, rfl, by decide, by show ((["text", "used", "test"] : List Str).take 0).contains "text" = false; decide +kernel, by show 0 ≤ 3; decide⟩
theorem fd_Not_text (T : Txt P w K mg F D C) : FldOk (tbl K C) "text" 15 0 := ⟨T.cl_Not, T.na_Not_text, fun vs h => match vs, h with | [_, _, _], _ => rfl⟩
theorem po_Not_used (T : Txt P w K mg F D C) : PutOk (tbl K C) "used" 15 1 := ⟨T.cl_Not, T.na_Not_used, rfl, by decide, by show ((["text", "used", "test"] : List Str).take 1).contains "used" = false; decide +kernel, by show 1 ≤ 3; decide⟩
theorem fd_Not_used (T : Txt P w K mg F D C) : FldOk (tbl K C) "used" 15 1 := ⟨T.cl_Not, T.na_Not_used, fun vs h => match vs, h with | [_, _, _], _ => rfl⟩
theorem po_Not_test (T : Txt P w K mg F D C) : PutOk (tbl K C) "test" 15 2 := ⟨T.cl_Not, T.na_Not_test, rfl, by decide, by show ((["text", "used", "test"] : List Str).take 2).contains "test" = false; decide +kernel, by show 2 ≤ 3; decide⟩
theorem po_Program_rows (T : Txt P w K mg F D C) : PutOk (tbl K C) "rows" 18 0 := ⟨T.cl_Program, T.na_Program_rows, rfl, by decide, by show ((["rows", "flat", "lines", "names"] : List Str).take 0).contains "rows" = false; decide +kernel, by show 0 ≤ 4; decide⟩
theorem po_Program_flat (T : Txt P w K mg F D C) : PutOk (tbl K C) "flat" 18 1 := ⟨T.cl_Program, T.na_Program_flat, rfl, by decide, by show ((["rows", "flat", "lines", "names"] : List Str).take 1).contains "flat" = false; decide +kernel, by show 1 ≤ 4; decide⟩
theorem po_Program_lines (T : Txt P w K mg F D C) : PutOk (tbl K C) "lines" 18 2 := ⟨T.cl_Program, T.na_Program_lines, rfl, by decide, by show ((["rows", "flat", "lines", "names"] : List Str).take 2).contains "lines" = false; decide +kernel, by show 2 ≤ 4; decide⟩
theorem fd_Program_lines (T : Txt P w K mg F D C) : FldOk (tbl K C) "lines" 18 2 := ⟨T.cl_Program, T.na_Program_lines, fun vs h => match vs, h with | [_, _, _, _], _ => rfl⟩
theorem po_Program_names (T : Txt P w K mg F D C) : PutOk (tbl K C) "names" 18 3 := ⟨T.cl_Program, T.na_Program_names, rfl, by decide, by show ((["rows", "flat", "lines", "names"] : List Str).take 3).contains "names" = false; decide +kernel, by show 3 ≤ 4; decide⟩
theorem po_Sheet_rows (T : Txt P w K mg F D C) : PutOk (tbl K C) "rows" 19 0 := ⟨T.cl_Sheet, T.na_Sheet_rows, rfl, by decide, by show ((["rows"] : List Str).take 0).contains "rows" = false; decide +kernel, by show 0 ≤ 1; decide⟩
theorem fd_Sheet_rows (T : Txt P w K mg F D C) : FldOk (tbl K C) "rows" 19 0 := ⟨T.cl_Sheet, T.na_Sheet_rows, fun vs h => match vs, h with | [_], _ => rfl⟩
theorem nm_Sheet_need_place (K : PySem.W.Frag) (C : Nat → Addr) : ((tbl K C).fl 19).contains "need_place" = false := by show (["rows"] : List Str).contains "need_place" = false; decide +kernel
theorem nm_Sheet_drop (K : PySem.W.Frag) (C : Nat → Addr) : ((tbl K C).fl 19).contains "drop" = false := by show (["rows"] : List Str).contains "drop" = false; decide +kernel
theorem nm_Sheet_made (K : PySem.W.Frag) (C : Nat → Addr) : ((tbl K C).fl 19).contains "made" = false := by show (["rows"] : List Str).contains "made" = false; decide +kernel
theorem fo_Program_lines (T : Txt P w K mg F D C) : ∀ c k, ([(18, 2)] : List (Nat × Nat)).lookup c = some k → FldOk (tbl K C) "lines" c k := by
  intro c k h
  simp only [List.lookup_cons] at h
  by_cases e : (c == 18) = true
  · rw [e] at h; cases h; cases (beq_iff_eq.mp e); exact fd_Program_lines T
  · rw [Bool.not_eq_true] at e; rw [e] at h; dsimp only at h; clear e
    cases h
theorem fo_Row_inner (T : Txt P w K mg F D C) : ∀ c k, ([(9, 1), (10, 1), (11, 4), (12, 3)] : List (Nat × Nat)).lookup c = some k → FldOk (tbl K C) "inner" c k := by
  intro c k h
  simp only [List.lookup_cons] at h
  by_cases e : (c == 9) = true
  · rw [e] at h; cases h; cases (beq_iff_eq.mp e); exact fd_Put_inner T
  · rw [Bool.not_eq_true] at e; rw [e] at h; dsimp only at h; clear e
    by_cases e : (c == 10) = true
    · rw [e] at h; cases h; cases (beq_iff_eq.mp e); exact fd_Stop_inner T
    · rw [Bool.not_eq_true] at e; rw [e] at h; dsimp only at h; clear e
      by_cases e : (c == 11) = true
      · rw [e] at h; cases h; cases (beq_iff_eq.mp e); exact fd_If_inner T
      · rw [Bool.not_eq_true] at e; rw [e] at h; dsimp only at h; clear e
        by_cases e : (c == 12) = true
        · rw [e] at h; cases h; cases (beq_iff_eq.mp e); exact fd_Times_inner T
        · rw [Bool.not_eq_true] at e; rw [e] at h; dsimp only at h; clear e
          cases h
theorem fo_Row_lines (T : Txt P w K mg F D C) : ∀ c k, ([(9, 0), (10, 0), (11, 3), (12, 2)] : List (Nat × Nat)).lookup c = some k → FldOk (tbl K C) "lines" c k := by
  intro c k h
  simp only [List.lookup_cons] at h
  by_cases e : (c == 9) = true
  · rw [e] at h; cases h; cases (beq_iff_eq.mp e); exact fd_Put_lines T
  · rw [Bool.not_eq_true] at e; rw [e] at h; dsimp only at h; clear e
    by_cases e : (c == 10) = true
    · rw [e] at h; cases h; cases (beq_iff_eq.mp e); exact fd_Stop_lines T
    · rw [Bool.not_eq_true] at e; rw [e] at h; dsimp only at h; clear e
      by_cases e : (c == 11) = true
      · rw [e] at h; cases h; cases (beq_iff_eq.mp e); exact fd_If_lines T
      · rw [Bool.not_eq_true] at e; rw [e] at h; dsimp only at h; clear e
        by_cases e : (c == 12) = true
        · rw [e] at h; cases h; cases (beq_iff_eq.mp e); exact fd_Times_lines T
        · rw [Bool.not_eq_true] at e; rw [e] at h; dsimp only at h; clear e
          cases h
theorem fo_Row_used (T : Txt P w K mg F D C) : ∀ c k, ([(9, 2), (10, 2), (11, 5), (12, 4)] : List (Nat × Nat)).lookup c = some k → FldOk (tbl K C) "used" c k := by
  intro c k h
  simp only [List.lookup_cons] at h
  by_cases e : (c == 9) = true
  · rw [e] at h; cases h; cases (beq_iff_eq.mp e); exact fd_Put_used T
  · rw [Bool.not_eq_true] at e; rw [e] at h; dsimp only at h; clear e
    by_cases e : (c == 10) = true
    · rw [e] at h; cases h; cases (beq_iff_eq.mp e); exact fd_Stop_used T
    · rw [Bool.not_eq_true] at e; rw [e] at h; dsimp only at h; clear e
      by_cases e : (c == 11) = true
      · rw [e] at h; cases h; cases (beq_iff_eq.mp e); exact fd_If_used T
      · rw [Bool.not_eq_true] at e; rw [e] at h; dsimp only at h; clear e
        by_cases e : (c == 12) = true
        · rw [e] at h; cases h; cases (beq_iff_eq.mp e); exact fd_Times_used T
        · rw [Bool.not_eq_true] at e; rw [e] at h; dsimp only at h; clear e
          cases h
theorem fo_Sheet_rows (T : Txt P w K mg F D C) : ∀ c k, ([(19, 0)] : List (Nat × Nat)).lookup c = some k → FldOk (tbl K C) "rows" c k := by
  intro c k h
  simp only [List.lookup_cons] at h
  by_cases e : (c == 19) = true
  · rw [e] at h; cases h; cases (beq_iff_eq.mp e); exact fd_Sheet_rows T
  · rw [Bool.not_eq_true] at e; rw [e] at h; dsimp only at h; clear e
    cases h
theorem fo_Test_text (T : Txt P w K mg F D C) : ∀ c k, ([(14, 0), (15, 0)] : List (Nat × Nat)).lookup c = some k → FldOk (tbl K C) "text" c k := by
  intro c k h
  simp only [List.lookup_cons] at h
  by_cases e : (c == 14) = true
  · rw [e] at h; cases h; cases (beq_iff_eq.mp e); exact fd_Ask_text T
  · rw [Bool.not_eq_true] at e; rw [e] at h; dsimp only at h; clear e
    by_cases e : (c == 15) = true
    · rw [e] at h; cases h; cases (beq_iff_eq.mp e); exact fd_Not_text T
    · rw [Bool.not_eq_true] at e; rw [e] at h; dsimp only at h; clear e
      cases h
theorem fo_Test_used (T : Txt P w K mg F D C) : ∀ c k, ([(14, 1), (15, 1)] : List (Nat × Nat)).lookup c = some k → FldOk (tbl K C) "used" c k := by
  intro c k h
  simp only [List.lookup_cons] at h
  by_cases e : (c == 14) = true
  · rw [e] at h; cases h; cases (beq_iff_eq.mp e); exact fd_Ask_used T
  · rw [Bool.not_eq_true] at e; rw [e] at h; dsimp only at h; clear e
    by_cases e : (c == 15) = true
    · rw [e] at h; cases h; cases (beq_iff_eq.mp e); exact fd_Not_used T
    · rw [Bool.not_eq_true] at e; rw [e] at h; dsimp only at h; clear e
      cases h
theorem ex_InvalidRow (Z : Exs P K mg C I) : ∀ k ∈ ([7, 4] : List Nat), PySem.W.exmOne K (.ref (C k)) (.ref (C 4)) = some (([4] : List Nat).contains k) := by
  intro k h
  simp only [List.mem_cons, List.not_mem_nil, or_false] at h
  rcases h with rfl | rfl
  · exact Z.m_NoRow_InvalidRow
  · exact Z.m_InvalidRow_InvalidRow
theorem ex_NoRow (Z : Exs P K mg C I) : ∀ k ∈ ([7, 4] : List Nat), PySem.W.exmOne K (.ref (C k)) (.ref (C 7)) = some (([7] : List Nat).contains k) := by
  intro k h
  simp only [List.mem_cons, List.not_mem_nil, or_false] at h
  rcases h with rfl | rfl
  · exact Z.m_NoRow_NoRow
  · exact Z.m_InvalidRow_NoRow
theorem so_Row (T : Txt P w K mg F D C) : StrOk (tbl K C) ([9, 10, 11, 12] : List Nat) (F 31) := by
  constructor
  · intro c h
    simp only [List.mem_cons, List.not_mem_nil, or_false] at h
    rcases h with rfl | rfl | rfl | rfl
    · exact T.mi_Put_str.at_
    · exact T.mi_Stop_str.at_
    · exact T.mi_If_str.at_
    · exact T.mi_Times_str.at_
  · intro c h
    simp only [List.mem_cons, List.not_mem_nil, or_false] at h
    rcases h with rfl | rfl | rfl | rfl
    · exact ⟨T.fm_Put, T.td_Put⟩
    · exact ⟨T.fm_Stop, T.td_Stop⟩
    · exact ⟨T.fm_If, T.td_If⟩
    · exact ⟨T.fm_Times, T.td_Times⟩
theorem he_Row (T : Txt P w K mg F D C) : ∀ c ∈ ([9, 10, 11, 12] : List Nat), PySem.W.findIn (tbl K C).K (.ref ((tbl K C).C c)) "__eq__" = some (some (.ref (F 30))) := by
  intro c h
  simp only [List.mem_cons, List.not_mem_nil, or_false] at h
  rcases h with rfl | rfl | rfl | rfl
  · exact T.mi_Put_eq.at_
  · exact T.mi_Stop_eq.at_
  · exact T.mi_If_eq.at_
  · exact T.mi_Times_eq.at_
theorem qa_Row_Put (T : Txt P w K mg F D C) : EqaOk (tbl K C) 9 ([9, 10, 11, 12, 14, 15] : List Nat) := by
  refine ⟨fun m h => ?_, ?_⟩
  · simp only [List.mem_cons, List.not_mem_nil, or_false] at h
    rcases h with rfl | rfl | rfl | rfl | rfl | rfl
    · exact T.nft_Put_NoneType
    · exact T.nft_Put_bool
    · exact T.nft_Put_int
    · exact T.nft_Put_str
    · exact T.nft_Put_list
    · exact T.nft_Put_tuple
  intro c h
  simp only [List.mem_cons, List.not_mem_nil, or_false] at h
  rcases h with rfl | rfl | rfl | rfl | rfl | rfl
  · exact ⟨⟨T.cl_Put, T.ta_Put, T.tb_Put, T.tc_Put, T.td_Put⟩, T.nfo_Put_Put⟩
  · exact ⟨⟨T.cl_Stop, T.ta_Stop, T.tb_Stop, T.tc_Stop, T.td_Stop⟩, T.nfo_Put_Stop⟩
  · exact ⟨⟨T.cl_If, T.ta_If, T.tb_If, T.tc_If, T.td_If⟩, T.nfo_Put_If⟩
  · exact ⟨⟨T.cl_Times, T.ta_Times, T.tb_Times, T.tc_Times, T.td_Times⟩, T.nfo_Put_Times⟩
  · exact ⟨⟨T.cl_Ask, T.ta_Ask, T.tb_Ask, T.tc_Ask, T.td_Ask⟩, T.nfo_Put_Ask⟩
  · exact ⟨⟨T.cl_Not, T.ta_Not, T.tb_Not, T.tc_Not, T.td_Not⟩, T.nfo_Put_Not⟩
theorem qa_Row_Stop (T : Txt P w K mg F D C) : EqaOk (tbl K C) 10 ([9, 10, 11, 12, 14, 15] : List Nat) := by
  refine ⟨fun m h => ?_, ?_⟩
  · simp only [List.mem_cons, List.not_mem_nil, or_false] at h
    rcases h with rfl | rfl | rfl | rfl | rfl | rfl
    · exact T.nft_Stop_NoneType
    · exact T.nft_Stop_bool
    · exact T.nft_Stop_int
    · exact T.nft_Stop_str
    · exact T.nft_Stop_list
    · exact T.nft_Stop_tuple
  intro c h
  simp only [List.mem_cons, List.not_mem_nil, or_false] at h
  rcases h with rfl | rfl | rfl | rfl | rfl | rfl
  · exact ⟨⟨T.cl_Put, T.ta_Put, T.tb_Put, T.tc_Put, T.td_Put⟩, T.nfo_Stop_Put⟩
  · exact ⟨⟨T.cl_Stop, T.ta_Stop, T.tb_Stop, T.tc_Stop, T.td_Stop⟩, T.nfo_Stop_Stop⟩
  · exact ⟨⟨T.cl_If, T.ta_If, T.tb_If, T.tc_If, T.td_If⟩, T.nfo_Stop_If⟩
  · exact ⟨⟨T.cl_Times, T.ta_Times, T.tb_Times, T.tc_Times, T.td_Times⟩, T.nfo_Stop_Times⟩
  · exact ⟨⟨T.cl_Ask, T.ta_Ask, T.tb_Ask, T.tc_Ask, T.td_Ask⟩, T.nfo_Stop_Ask⟩
  · exact ⟨⟨T.cl_Not, T.ta_Not, T.tb_Not, T.tc_Not, T.td_Not⟩, T.nfo_Stop_Not⟩
theorem qa_Row_If (T : Txt P w K mg F D C) : EqaOk (tbl K C) 11 ([9, 10, 11, 12, 14, 15] : List Nat) := by
  refine ⟨fun m h => ?_, ?_⟩
  · simp only [List.mem_cons, List.not_mem_nil, or_false] at h
    rcases h with rfl | rfl | rfl | rfl | rfl | rfl
    · exact T.nft_If_NoneType
    · exact T.nft_If_bool
    · exact T.nft_If_int
    · exact T.nft_If_str
    · exact T.nft_If_list
    · exact T.nft_If_tuple
  intro c h
  simp only [List.mem_cons, List.not_mem_nil, or_false] at h
  rcases h with rfl | rfl | rfl | rfl | rfl | rfl
  · exact ⟨⟨T.cl_Put, T.ta_Put, T.tb_Put, T.tc_Put, T.td_Put⟩, T.nfo_If_Put⟩
  · exact ⟨⟨T.cl_Stop, T.ta_Stop, T.tb_Stop, T.tc_Stop, T.td_Stop⟩, T.nfo_If_Stop⟩
  · exact ⟨⟨T.cl_If, T.ta_If, T.tb_If, T.tc_If, T.td_If⟩, T.nfo_If_If⟩
  · exact ⟨⟨T.cl_Times, T.ta_Times, T.tb_Times, T.tc_Times, T.td_Times⟩, T.nfo_If_Times⟩
  · exact ⟨⟨T.cl_Ask, T.ta_Ask, T.tb_Ask, T.tc_Ask, T.td_Ask⟩, T.nfo_If_Ask⟩
  · exact ⟨⟨T.cl_Not, T.ta_Not, T.tb_Not, T.tc_Not, T.td_Not⟩, T.nfo_If_Not⟩
theorem qa_Row_Times (T : Txt P w K mg F D C) : EqaOk (tbl K C) 12 ([9, 10, 11, 12, 14, 15] : List Nat) := by
  refine ⟨fun m h => ?_, ?_⟩
  · simp only [List.mem_cons, List.not_mem_nil, or_false] at h
    rcases h with rfl | rfl | rfl | rfl | rfl | rfl
    · exact T.nft_Times_NoneType
    · exact T.nft_Times_bool
    · exact T.nft_Times_int
    · exact T.nft_Times_str
    · exact T.nft_Times_list
    · exact T.nft_Times_tuple
  intro c h
  simp only [List.mem_cons, List.not_mem_nil, or_false] at h
  rcases h with rfl | rfl | rfl | rfl | rfl | rfl
  · exact ⟨⟨T.cl_Put, T.ta_Put, T.tb_Put, T.tc_Put, T.td_Put⟩, T.nfo_Times_Put⟩
  · exact ⟨⟨T.cl_Stop, T.ta_Stop, T.tb_Stop, T.tc_Stop, T.td_Stop⟩, T.nfo_Times_Stop⟩
  · exact ⟨⟨T.cl_If, T.ta_If, T.tb_If, T.tc_If, T.td_If⟩, T.nfo_Times_If⟩
  · exact ⟨⟨T.cl_Times, T.ta_Times, T.tb_Times, T.tc_Times, T.td_Times⟩, T.nfo_Times_Times⟩
  · exact ⟨⟨T.cl_Ask, T.ta_Ask, T.tb_Ask, T.tc_Ask, T.td_Ask⟩, T.nfo_Times_Ask⟩
  · exact ⟨⟨T.cl_Not, T.ta_Not, T.tb_Not, T.tc_Not, T.td_Not⟩, T.nfo_Times_Not⟩
theorem qa_Row (T : Txt P w K mg F D C) : ∀ c ∈ ([9, 10, 11, 12] : List Nat), EqaOk (tbl K C) c ([9, 10, 11, 12, 14, 15] : List Nat) := by
  intro c h
  simp only [List.mem_cons, List.not_mem_nil, or_false] at h
  rcases h with rfl | rfl | rfl | rfl
  · exact qa_Row_Put T
  · exact qa_Row_Stop T
  · exact qa_Row_If T
  · exact qa_Row_Times T
theorem so_Test (T : Txt P w K mg F D C) : StrOk (tbl K C) ([14, 15] : List Nat) (F 39) := by
  constructor
  · intro c h
    simp only [List.mem_cons, List.not_mem_nil, or_false] at h
    rcases h with rfl | rfl
    · exact T.mi_Ask_str.at_
    · exact T.mi_Not_str.at_
  · intro c h
    simp only [List.mem_cons, List.not_mem_nil, or_false] at h
    rcases h with rfl | rfl
    · exact ⟨T.fm_Ask, T.td_Ask⟩
    · exact ⟨T.fm_Not, T.td_Not⟩
theorem is2_list_tuple (T : Txt P w K mg F D C) : ∀ n ∈ ([.list, .tuple] : List BT), ∀ c ∈ ([9, 10, 11, 12, 14, 15, 18, 19] : List Nat), InsOk (tbl K C) c ∧ PySem.W.kitOne (tbl K C).K (.ref ((tbl K C).C c)) (.type n.nm) = some false := by
  intro n hn
  simp only [List.mem_cons, List.not_mem_nil, or_false] at hn
  rcases hn with rfl | rfl
  · intro c h
    simp only [List.mem_cons, List.not_mem_nil, or_false] at h
    rcases h with rfl | rfl | rfl | rfl | rfl | rfl | rfl | rfl
    · exact ⟨⟨T.cl_Put, T.ta_Put, T.tb_Put, T.tc_Put, T.td_Put⟩, T.kt_Put_list⟩
    · exact ⟨⟨T.cl_Stop, T.ta_Stop, T.tb_Stop, T.tc_Stop, T.td_Stop⟩, T.kt_Stop_list⟩
    · exact ⟨⟨T.cl_If, T.ta_If, T.tb_If, T.tc_If, T.td_If⟩, T.kt_If_list⟩
    · exact ⟨⟨T.cl_Times, T.ta_Times, T.tb_Times, T.tc_Times, T.td_Times⟩, T.kt_Times_list⟩
    · exact ⟨⟨T.cl_Ask, T.ta_Ask, T.tb_Ask, T.tc_Ask, T.td_Ask⟩, T.kt_Ask_list⟩
    · exact ⟨⟨T.cl_Not, T.ta_Not, T.tb_Not, T.tc_Not, T.td_Not⟩, T.kt_Not_list⟩
    · exact ⟨⟨T.cl_Program, T.ta_Program, T.tb_Program, T.tc_Program, T.td_Program⟩, T.kt_Program_list⟩
    · exact ⟨⟨T.cl_Sheet, T.ta_Sheet, T.tb_Sheet, T.tc_Sheet, T.td_Sheet⟩, T.kt_Sheet_list⟩
  · intro c h
    simp only [List.mem_cons, List.not_mem_nil, or_false] at h
    rcases h with rfl | rfl | rfl | rfl | rfl | rfl | rfl | rfl
    · exact ⟨⟨T.cl_Put, T.ta_Put, T.tb_Put, T.tc_Put, T.td_Put⟩, T.kt_Put_tuple⟩
    · exact ⟨⟨T.cl_Stop, T.ta_Stop, T.tb_Stop, T.tc_Stop, T.td_Stop⟩, T.kt_Stop_tuple⟩
    · exact ⟨⟨T.cl_If, T.ta_If, T.tb_If, T.tc_If, T.td_If⟩, T.kt_If_tuple⟩
    · exact ⟨⟨T.cl_Times, T.ta_Times, T.tb_Times, T.tc_Times, T.td_Times⟩, T.kt_Times_tuple⟩
    · exact ⟨⟨T.cl_Ask, T.ta_Ask, T.tb_Ask, T.tc_Ask, T.td_Ask⟩, T.kt_Ask_tuple⟩
    · exact ⟨⟨T.cl_Not, T.ta_Not, T.tb_Not, T.tc_Not, T.td_Not⟩, T.kt_Not_tuple⟩
    · exact ⟨⟨T.cl_Program, T.ta_Program, T.tb_Program, T.tc_Program, T.td_Program⟩, T.kt_Program_tuple⟩
    · exact ⟨⟨T.cl_Sheet, T.ta_Sheet, T.tb_Sheet, T.tc_Sheet, T.td_Sheet⟩, T.kt_Sheet_tuple⟩
abbrev xa_Ask_init : List Expr := supArgs ((defBody s_Ask_init).getD 2 (.Pass ⟨0, 0, 0, 0⟩))
theorem sb_Ask_init : SupB ["self", "word", "names", "name"] ["self", "word", "names"] s_Ask_init ((defBody s_Ask_init).take 2) ((defBody s_Ask_init).drop 3) (xa_Ask_init.headD (.Name "" ⟨0, 0, 0, 0⟩)) xa_Ask_init.tail := by
  refine ⟨sc_Ask_init, ⟨_, _, _, _, _, rfl, rfl, fun _ => rfl, fun _ => rfl, fun _ => rfl, fun env h => ?_, fun env h => ?_⟩, ⟨_, rfl, rfl, rfl⟩⟩
  · unfold interactive; rw [h]; try rfl
  · unfold swapsWith; simp only [h]; try rfl
theorem bs_Ask_init {K : PySem.W.Frag} : BindStar K "__init__" "Ask.__init__" s_Ask_init ["self", "word"] "names" := bindV fun clo kV doc pm an cdv ct us rest hl => match us, rest, hl with
  | [u0, u1], [], _ => rfl
  | [u0, u1], r :: rs, _ => rfl
abbrev xa_Not_init : List Expr := supArgs ((defBody s_Not_init).getD 1 (.Pass ⟨0, 0, 0, 0⟩))
theorem sb_Not_init : SupB ["self", "test"] ["self", "test"] s_Not_init ((defBody s_Not_init).take 1) ((defBody s_Not_init).drop 2) (xa_Not_init.headD (.Name "" ⟨0, 0, 0, 0⟩)) xa_Not_init.tail := by
  refine ⟨sc_Not_init, ⟨_, _, _, _, _, rfl, rfl, fun _ => rfl, fun _ => rfl, fun _ => rfl, fun env h => ?_, fun env h => ?_⟩, ⟨_, rfl, rfl, rfl⟩⟩
  · unfold interactive; rw [h]; try rfl
  · unfold swapsWith; simp only [h]; try rfl
theorem ba_Not_init {K : PySem.W.Frag} : BindAll K "__init__" "Not.__init__" s_Not_init ["self", "test"] 0 := bindN fun clo kV doc pm an cdv ct us hl => match us, hl with
  | [u0, u1], _ => rfl
abbrev xa_If_init : List Expr := supArgs ((defBody s_If_init).getD 6 (.Pass ⟨0, 0, 0, 0⟩))
theorem sb_If_init : SupB ["self", "test", "rows", "others", "last", "lines"] ["self", "test", "rows", "others"] s_If_init ((defBody s_If_init).take 6) ((defBody s_If_init).drop 7) (xa_If_init.headD (.Name "" ⟨0, 0, 0, 0⟩)) xa_If_init.tail := by
  refine ⟨sc_If_init, ⟨_, _, _, _, _, rfl, rfl, fun _ => rfl, fun _ => rfl, fun _ => rfl, fun env h => ?_, fun env h => ?_⟩, ⟨_, rfl, rfl, rfl⟩⟩
  · unfold interactive; rw [h]; try rfl
  · unfold swapsWith; simp only [h]; try rfl
theorem ba_If_init {K : PySem.W.Frag} : BindAll K "__init__" "If.__init__" s_If_init ["self", "test", "rows", "others"] 1 := bindD (by decide) fun clo T kV doc pm an cdv ct us its hl h2 => match us, its, hl, h2 with
  | [u0, u1, u2, u3], [d0], _, _ => ⟨_, rfl, rfl⟩
abbrev xa_Put_init : List Expr := supArgs ((defBody s_Put_init).getD 3 (.Pass ⟨0, 0, 0, 0⟩))
theorem sb_Put_init : SupB ["self", "name", "deed", "given", "arg"] ["self", "name", "deed", "given"] s_Put_init ((defBody s_Put_init).take 3) ((defBody s_Put_init).drop 4) (xa_Put_init.headD (.Name "" ⟨0, 0, 0, 0⟩)) xa_Put_init.tail := by
  refine ⟨sc_Put_init, ⟨_, _, _, _, _, rfl, rfl, fun _ => rfl, fun _ => rfl, fun _ => rfl, fun env h => ?_, fun env h => ?_⟩, ⟨_, rfl, rfl, rfl⟩⟩
  · unfold interactive; rw [h]; try rfl
  · unfold swapsWith; simp only [h]; try rfl
theorem bs_Put_init {K : PySem.W.Frag} : BindStar K "__init__" "Put.__init__" s_Put_init ["self", "name", "deed"] "given" := bindV fun clo kV doc pm an cdv ct us rest hl => match us, rest, hl with
  | [u0, u1, u2], [], _ => rfl
  | [u0, u1, u2], r :: rs, _ => rfl
abbrev xa_Stop_init : List Expr := supArgs ((defBody s_Stop_init).getD 0 (.Pass ⟨0, 0, 0, 0⟩))
theorem sb_Stop_init : SupB ["self"] ["self"] s_Stop_init ((defBody s_Stop_init).take 0) ((defBody s_Stop_init).drop 1) (xa_Stop_init.headD (.Name "" ⟨0, 0, 0, 0⟩)) xa_Stop_init.tail := by
  refine ⟨sc_Stop_init, ⟨_, _, _, _, _, rfl, rfl, fun _ => rfl, fun _ => rfl, fun _ => rfl, fun env h => ?_, fun env h => ?_⟩, ⟨_, rfl, rfl, rfl⟩⟩
  · unfold interactive; rw [h]; try rfl
  · unfold swapsWith; simp only [h]; try rfl
theorem ba_Stop_init {K : PySem.W.Frag} : BindAll K "__init__" "Stop.__init__" s_Stop_init ["self"] 0 := bindN fun clo kV doc pm an cdv ct us hl => match us, hl with
  | [u0], _ => rfl
abbrev xa_Times_init : List Expr := supArgs ((defBody s_Times_init).getD 3 (.Pass ⟨0, 0, 0, 0⟩))
theorem sb_Times_init : SupB ["self", "count", "rows"] ["self", "count", "rows"] s_Times_init ((defBody s_Times_init).take 3) ((defBody s_Times_init).drop 4) (xa_Times_init.headD (.Name "" ⟨0, 0, 0, 0⟩)) xa_Times_init.tail := by
  refine ⟨sc_Times_init, ⟨_, _, _, _, _, rfl, rfl, fun _ => rfl, fun _ => rfl, fun _ => rfl, fun env h => ?_, fun env h => ?_⟩, ⟨_, rfl, rfl, rfl⟩⟩
  · unfold interactive; rw [h]; try rfl
  · unfold swapsWith; simp only [h]; try rfl
theorem ba_Times_init {K : PySem.W.Frag} : BindAll K "__init__" "Times.__init__" s_Times_init ["self", "count", "rows"] 0 := bindN fun clo kV doc pm an cdv ct us hl => match us, hl with
  | [u0, u1, u2], _ => rfl
theorem ba_Program_init {K : PySem.W.Frag} : BindAll K "__init__" "Program.__init__" s_Program_init ["self", "rows"] 1 := bindD (by decide) fun clo T kV doc pm an cdv ct us its hl h2 => match us, its, hl, h2 with
  | [u0, u1], [d0], _, _ => ⟨_, rfl, rfl⟩
theorem bd_Program_init {K : PySem.W.Frag} : BindDf K "__init__" "Program.__init__" s_Program_init ["self", "rows"] := bindDf fun clo T kV doc pm an cdv ct T2 us hl => match us, hl with
  | [u0], _ => ⟨_, rfl, rfl⟩
theorem ba_Sheet_init {K : PySem.W.Frag} : BindAll K "__init__" "Sheet.__init__" s_Sheet_init ["self", "rows"] 1 := bindD (by decide) fun clo T kV doc pm an cdv ct us its hl h2 => match us, its, hl, h2 with
  | [u0, u1], [d0], _, _ => ⟨_, rfl, rfl⟩
theorem bd_Sheet_init {K : PySem.W.Frag} : BindDf K "__init__" "Sheet.__init__" s_Sheet_init ["self", "rows"] := bindDf fun clo T kV doc pm an cdv ct T2 us hl => match us, hl with
  | [u0], _ => ⟨_, rfl, rfl⟩
theorem is_int (T : Txt P w K mg F D C) : ∀ c ∈ ([9, 10, 11, 12, 14, 15, 18, 19] : List Nat), InsOk (tbl K C) c ∧ PySem.W.kitOne (tbl K C).K (.ref ((tbl K C).C c)) (.type (BT.nm .int)) = some false := by
  intro c h
  simp only [List.mem_cons, List.not_mem_nil, or_false] at h
  rcases h with rfl | rfl | rfl | rfl | rfl | rfl | rfl | rfl
  · exact ⟨⟨T.cl_Put, T.ta_Put, T.tb_Put, T.tc_Put, T.td_Put⟩, T.kt_Put_int⟩
  · exact ⟨⟨T.cl_Stop, T.ta_Stop, T.tb_Stop, T.tc_Stop, T.td_Stop⟩, T.kt_Stop_int⟩
  · exact ⟨⟨T.cl_If, T.ta_If, T.tb_If, T.tc_If, T.td_If⟩, T.kt_If_int⟩
  · exact ⟨⟨T.cl_Times, T.ta_Times, T.tb_Times, T.tc_Times, T.td_Times⟩, T.kt_Times_int⟩
  · exact ⟨⟨T.cl_Ask, T.ta_Ask, T.tb_Ask, T.tc_Ask, T.td_Ask⟩, T.kt_Ask_int⟩
  · exact ⟨⟨T.cl_Not, T.ta_Not, T.tb_Not, T.tc_Not, T.td_Not⟩, T.kt_Not_int⟩
  · exact ⟨⟨T.cl_Program, T.ta_Program, T.tb_Program, T.tc_Program, T.td_Program⟩, T.kt_Program_int⟩
  · exact ⟨⟨T.cl_Sheet, T.ta_Sheet, T.tb_Sheet, T.tc_Sheet, T.td_Sheet⟩, T.kt_Sheet_int⟩
theorem is_bool (T : Txt P w K mg F D C) : ∀ c ∈ ([9, 10, 11, 12, 14, 15, 18, 19] : List Nat), InsOk (tbl K C) c ∧ PySem.W.kitOne (tbl K C).K (.ref ((tbl K C).C c)) (.type (BT.nm .bool)) = some false := by
  intro c h
  simp only [List.mem_cons, List.not_mem_nil, or_false] at h
  rcases h with rfl | rfl | rfl | rfl | rfl | rfl | rfl | rfl
  · exact ⟨⟨T.cl_Put, T.ta_Put, T.tb_Put, T.tc_Put, T.td_Put⟩, T.kt_Put_bool⟩
  · exact ⟨⟨T.cl_Stop, T.ta_Stop, T.tb_Stop, T.tc_Stop, T.td_Stop⟩, T.kt_Stop_bool⟩
  · exact ⟨⟨T.cl_If, T.ta_If, T.tb_If, T.tc_If, T.td_If⟩, T.kt_If_bool⟩
  · exact ⟨⟨T.cl_Times, T.ta_Times, T.tb_Times, T.tc_Times, T.td_Times⟩, T.kt_Times_bool⟩
  · exact ⟨⟨T.cl_Ask, T.ta_Ask, T.tb_Ask, T.tc_Ask, T.td_Ask⟩, T.kt_Ask_bool⟩
  · exact ⟨⟨T.cl_Not, T.ta_Not, T.tb_Not, T.tc_Not, T.td_Not⟩, T.kt_Not_bool⟩
  · exact ⟨⟨T.cl_Program, T.ta_Program, T.tb_Program, T.tc_Program, T.td_Program⟩, T.kt_Program_bool⟩
  · exact ⟨⟨T.cl_Sheet, T.ta_Sheet, T.tb_Sheet, T.tc_Sheet, T.td_Sheet⟩, T.kt_Sheet_bool⟩
theorem is_str (T : Txt P w K mg F D C) : ∀ c ∈ ([9, 10, 11, 12, 14, 15, 18, 19] : List Nat), InsOk (tbl K C) c ∧ PySem.W.kitOne (tbl K C).K (.ref ((tbl K C).C c)) (.type (BT.nm .str)) = some false := by
  intro c h
  simp only [List.mem_cons, List.not_mem_nil, or_false] at h
  rcases h with rfl | rfl | rfl | rfl | rfl | rfl | rfl | rfl
  · exact ⟨⟨T.cl_Put, T.ta_Put, T.tb_Put, T.tc_Put, T.td_Put⟩, T.kt_Put_str⟩
  · exact ⟨⟨T.cl_Stop, T.ta_Stop, T.tb_Stop, T.tc_Stop, T.td_Stop⟩, T.kt_Stop_str⟩
  · exact ⟨⟨T.cl_If, T.ta_If, T.tb_If, T.tc_If, T.td_If⟩, T.kt_If_str⟩
  · exact ⟨⟨T.cl_Times, T.ta_Times, T.tb_Times, T.tc_Times, T.td_Times⟩, T.kt_Times_str⟩
  · exact ⟨⟨T.cl_Ask, T.ta_Ask, T.tb_Ask, T.tc_Ask, T.td_Ask⟩, T.kt_Ask_str⟩
  · exact ⟨⟨T.cl_Not, T.ta_Not, T.tb_Not, T.tc_Not, T.td_Not⟩, T.kt_Not_str⟩
  · exact ⟨⟨T.cl_Program, T.ta_Program, T.tb_Program, T.tc_Program, T.td_Program⟩, T.kt_Program_str⟩
  · exact ⟨⟨T.cl_Sheet, T.ta_Sheet, T.tb_Sheet, T.tc_Sheet, T.td_Sheet⟩, T.kt_Sheet_str⟩
theorem no_Row (T : Txt P w K mg F D C) : NotOf (tbl K C) 8 := by
  intro m h
  simp only [List.mem_cons, List.not_mem_nil, or_false] at h
  rcases h with rfl | rfl | rfl | rfl | rfl | rfl
  · exact T.kn_Row_NoneType
  · exact T.kn_Row_bool
  · exact T.kn_Row_int
  · exact T.kn_Row_str
  · exact T.kn_Row_list
  · exact T.kn_Row_tuple
theorem su_Row (T : Txt P w K mg F D C) : ∀ c b, ([(9, true), (10, true), (11, true), (12, true), (14, false), (15, false), (18, false), (19, false)] : List (Nat × Bool)).lookup c = some b → InsOk (tbl K C) c ∧ PySem.W.kitOne (tbl K C).K (.ref ((tbl K C).C c)) (.ref ((tbl K C).C 8)) = some b := by
  intro c b h
  simp only [List.lookup_cons] at h
  by_cases e : (c == 9) = true
  · rw [e] at h; cases h; cases (beq_iff_eq.mp e); exact ⟨⟨T.cl_Put, T.ta_Put, T.tb_Put, T.tc_Put, T.td_Put⟩, T.ko_Put_Row⟩
  · rw [Bool.not_eq_true] at e; rw [e] at h; dsimp only at h; clear e
    by_cases e : (c == 10) = true
    · rw [e] at h; cases h; cases (beq_iff_eq.mp e); exact ⟨⟨T.cl_Stop, T.ta_Stop, T.tb_Stop, T.tc_Stop, T.td_Stop⟩, T.ko_Stop_Row⟩
    · rw [Bool.not_eq_true] at e; rw [e] at h; dsimp only at h; clear e
      by_cases e : (c == 11) = true
      · rw [e] at h; cases h; cases (beq_iff_eq.mp e); exact ⟨⟨T.cl_If, T.ta_If, T.tb_If, T.tc_If, T.td_If⟩, T.ko_If_Row⟩
      · rw [Bool.not_eq_true] at e; rw [e] at h; dsimp only at h; clear e
        by_cases e : (c == 12) = true
        · rw [e] at h; cases h; cases (beq_iff_eq.mp e); exact ⟨⟨T.cl_Times, T.ta_Times, T.tb_Times, T.tc_Times, T.td_Times⟩, T.ko_Times_Row⟩
        · rw [Bool.not_eq_true] at e; rw [e] at h; dsimp only at h; clear e
          by_cases e : (c == 14) = true
          · rw [e] at h; cases h; cases (beq_iff_eq.mp e); exact ⟨⟨T.cl_Ask, T.ta_Ask, T.tb_Ask, T.tc_Ask, T.td_Ask⟩, T.ko_Ask_Row⟩
          · rw [Bool.not_eq_true] at e; rw [e] at h; dsimp only at h; clear e
            by_cases e : (c == 15) = true
            · rw [e] at h; cases h; cases (beq_iff_eq.mp e); exact ⟨⟨T.cl_Not, T.ta_Not, T.tb_Not, T.tc_Not, T.td_Not⟩, T.ko_Not_Row⟩
            · rw [Bool.not_eq_true] at e; rw [e] at h; dsimp only at h; clear e
              by_cases e : (c == 18) = true
              · rw [e] at h; cases h; cases (beq_iff_eq.mp e); exact ⟨⟨T.cl_Program, T.ta_Program, T.tb_Program, T.tc_Program, T.td_Program⟩, T.ko_Program_Row⟩
              · rw [Bool.not_eq_true] at e; rw [e] at h; dsimp only at h; clear e
                by_cases e : (c == 19) = true
                · rw [e] at h; cases h; cases (beq_iff_eq.mp e); exact ⟨⟨T.cl_Sheet, T.ta_Sheet, T.tb_Sheet, T.tc_Sheet, T.td_Sheet⟩, T.ko_Sheet_Row⟩
                · rw [Bool.not_eq_true] at e; rw [e] at h; dsimp only at h; clear e
                  cases h
theorem no_Test (T : Txt P w K mg F D C) : NotOf (tbl K C) 13 := by
  intro m h
  simp only [List.mem_cons, List.not_mem_nil, or_false] at h
  rcases h with rfl | rfl | rfl | rfl | rfl | rfl
  · exact T.kn_Test_NoneType
  · exact T.kn_Test_bool
  · exact T.kn_Test_int
  · exact T.kn_Test_str
  · exact T.kn_Test_list
  · exact T.kn_Test_tuple
theorem su_Test (T : Txt P w K mg F D C) : ∀ c b, ([(9, false), (10, false), (11, false), (12, false), (14, true), (15, true), (18, false), (19, false)] : List (Nat × Bool)).lookup c = some b → InsOk (tbl K C) c ∧ PySem.W.kitOne (tbl K C).K (.ref ((tbl K C).C c)) (.ref ((tbl K C).C 13)) = some b := by
  intro c b h
  simp only [List.lookup_cons] at h
  by_cases e : (c == 9) = true
  · rw [e] at h; cases h; cases (beq_iff_eq.mp e); exact ⟨⟨T.cl_Put, T.ta_Put, T.tb_Put, T.tc_Put, T.td_Put⟩, T.ko_Put_Test⟩
  · rw [Bool.not_eq_true] at e; rw [e] at h; dsimp only at h; clear e
    by_cases e : (c == 10) = true
    · rw [e] at h; cases h; cases (beq_iff_eq.mp e); exact ⟨⟨T.cl_Stop, T.ta_Stop, T.tb_Stop, T.tc_Stop, T.td_Stop⟩, T.ko_Stop_Test⟩
    · rw [Bool.not_eq_true] at e; rw [e] at h; dsimp only at h; clear e
      by_cases e : (c == 11) = true
      · rw [e] at h; cases h; cases (beq_iff_eq.mp e); exact ⟨⟨T.cl_If, T.ta_If, T.tb_If, T.tc_If, T.td_If⟩, T.ko_If_Test⟩
      · rw [Bool.not_eq_true] at e; rw [e] at h; dsimp only at h; clear e
        by_cases e : (c == 12) = true
        · rw [e] at h; cases h; cases (beq_iff_eq.mp e); exact ⟨⟨T.cl_Times, T.ta_Times, T.tb_Times, T.tc_Times, T.td_Times⟩, T.ko_Times_Test⟩
        · rw [Bool.not_eq_true] at e; rw [e] at h; dsimp only at h; clear e
          by_cases e : (c == 14) = true
          · rw [e] at h; cases h; cases (beq_iff_eq.mp e); exact ⟨⟨T.cl_Ask, T.ta_Ask, T.tb_Ask, T.tc_Ask, T.td_Ask⟩, T.ko_Ask_Test⟩
          · rw [Bool.not_eq_true] at e; rw [e] at h; dsimp only at h; clear e
            by_cases e : (c == 15) = true
            · rw [e] at h; cases h; cases (beq_iff_eq.mp e); exact ⟨⟨T.cl_Not, T.ta_Not, T.tb_Not, T.tc_Not, T.td_Not⟩, T.ko_Not_Test⟩
            · rw [Bool.not_eq_true] at e; rw [e] at h; dsimp only at h; clear e
              by_cases e : (c == 18) = true
              · rw [e] at h; cases h; cases (beq_iff_eq.mp e); exact ⟨⟨T.cl_Program, T.ta_Program, T.tb_Program, T.tc_Program, T.td_Program⟩, T.ko_Program_Test⟩
              · rw [Bool.not_eq_true] at e; rw [e] at h; dsimp only at h; clear e
                by_cases e : (c == 19) = true
                · rw [e] at h; cases h; cases (beq_iff_eq.mp e); exact ⟨⟨T.cl_Sheet, T.ta_Sheet, T.tb_Sheet, T.tc_Sheet, T.td_Sheet⟩, T.ko_Sheet_Test⟩
                · rw [Bool.not_eq_true] at e; rw [e] at h; dsimp only at h; clear e
                  cases h
theorem last_get {xs : List Int} {z : Int} (h : xs.getLast? = some z) : (xs.map V.int)[(xs.map V.int).length - 1]? = some (.int z) := by
  rw [← List.getLast?_eq_getElem?, List.getLast?_map, h]
  rfl
theorem last_none {xs : List Int} (h : xs ≠ []) : ∃ z, xs.getLast? = some z := ⟨xs.getLast h, List.getLast?_eq_getLast h⟩
def sp_draw : Sp := fun vs H Q _ => ∃ (d l : Addr) (n : Int), vs = [V.ref d, .int n] ∧ Deal H d l ∧ 0 < n ∧ Sm n ∧ ∀ r H', 0 ≤ r → r < n → Drew d l H H' → Q (.int r) H'
theorem ok__law_draw (T : Txt P w K mg F D C) : FnOk P w K mg base CX0 1 (F 77) (D 77) ["_law_deal_here", "_law_amount"] (sp_draw) := by
  refine T.f__law_draw.ok sc__law_draw (fun vs H Q E h => ?_) (fun cdv A outer s H vs Q E hr h => ?_)
  · obtain ⟨d, l, n, rfl, D0, hn, sn, q⟩ := h
    rfl
  · obtain ⟨d, l, n, rfl, D0, hn, sn, q⟩ := h
    refine ⟨_, (pss_cons (ps_while PassesOwn.never (PW.pt (pw_and (pt_cmpR op_eq (pe_ix ix_list (pv 0) pe_int (fun _ _ => rfl)) pe_int (nomark _)) (pw_and1 (pt_cmpR op_gt (pe_callB call_len_seq (by rfl) T.n_len Eb.bb_len (pa_cons (pe_ix ix_list (pv 0) pe_int (fun _ _ => rfl)) pa_nil)) pe_int (nomark _))))) (pss_one (ps_asg (pe_bm0 PySem.F.plainAttrs_list PySem.F.slot_list_pop PySem.F.type_list_pop mt_pop (pe_ix ix_list (pv 0) pe_int (fun _ _ => rfl))) (pg_sub (pv 0) pe_int set_list)))) (pss_cons (ps_if (pt_cmpR op_gt (pe_ix ix_list (pv 0) pe_int (fun _ _ => rfl)) pe_int (nomark _)) (pss_cons (ps_set (i := 2) sc__law_draw.nd rfl (.inl rfl) (pe_op op_mod (pe_callTy call_int1 (by rfl) T.n_int Eb.bb_int (pa_cons (pe_ix ix_list (pv 0) pe_int (fun _ _ => rfl)) pa_nil)) (pv 1))) (pss_cons (ps_asg (pe_op op_fdivX (pe_ix ix_list (pv 0) pe_int (fun _ _ => rfl)) (pv 1)) (pg_sub (pv 0) pe_int set_list)) (pss_one (ps_ret (pv 2))))) pss_nil) (pss_cons (ps_asg (pe_op op_mod (pe_callTy call_int1 (by rfl) T.n_int Eb.bb_int (pa_cons (pe_op op_add (pe_op op_mulW (pe_ix ix_list (pv 0) pe_int (fun _ _ => rfl)) pe_int) pe_int) pa_nil)) pe_int) (pg_sub (pv 0) pe_int set_list)) (pss_one (ps_ret (pe_op op_mod (pe_callTy call_int1 (by rfl) T.n_int Eb.bb_int (pa_cons (pe_op op_fdivX (pe_ix ix_list (pv 0) pe_int (fun _ _ => rfl)) pe_int) pa_nil)) (pv 1))))))), ?_⟩
    have ne : d ≠ l := D0.ne
    refine whl (fun m σ H' => ∃ (xs : List Int) (c k : Int), σ = [some (.ref d), some (.int n), none] ∧ m = xs.length ∧ xs.length ≤ 63 ∧ H' d = some (.lst [.ref l, .int c, .int k]) ∧ H' l = some (.lst (xs.map V.int)) ∧ 0 ≤ k ∧ k < 2147483647 ∧ Grow [d, l] H H')
      (Classical.choose D0.ex).length ?_ ?_
    · obtain ⟨k, h1, h2, h3, h4, h5⟩ := Classical.choose_spec D0.ex
      exact ⟨_, k.1, k.2, rfl, rfl, h3, h1, h2, h4, h5, Grow.refl _ _⟩
    rintro m σ H' ⟨xs, c, k, rfl, rfl, hx, h1, h2, hk, hk2, g⟩
    refine by_ans (decide (c = 0 ∧ xs ≠ [])) (fun Q' k' => ?_) (fun H1 s1 => ?_)
    · refine ⟨_, rfl, d, _, _, .int c, rfl, rfl, sqL_of h1, rfl, ?_⟩
      refine ⟨rfl, _, rfl, ?_⟩
      by_cases ec : c = 0
      · subst ec
        rw [decide_eq_true (rfl : V.int 0 = V.int 0)]
        refine iteT ?_
        refine ⟨_, rfl, d, _, _, .ref l, rfl, rfl, sqL_of h1, rfl, l, xs.map V.int, rfl, .inl (sqL_of h2), _, _, rfl, rfl, _, rfl, ?_⟩
        have e3 : decide ((0 : Int) < ((xs.map V.int).length : Int)) = decide ((0 : Int) = 0 ∧ xs ≠ []) := by
          rw [List.length_map]
          cases xs with
          | nil => rfl
          | cons x r =>
            rw [decide_eq_true (show (0 : Int) = 0 ∧ x :: r ≠ [] from ⟨rfl, List.cons_ne_nil _ _⟩)]
            exact decide_eq_true (by rw [List.length_cons]; omega)
        rw [← e3] at k'
        exact k' _ (Same.refl _)
      · rw [decide_eq_false (show ¬ V.int c = V.int 0 from fun y => ec (V.int.inj y))]
        have e2 : decide (c = 0 ∧ xs ≠ []) = false := decide_eq_false (fun y => ec y.1)
        rw [e2] at k'
        exact iteF (k' _ (Same.refl _))
    replace h1 := s1 _ _ h1
    replace h2 := s1 _ _ h2
    replace g := g.same s1
    by_cases e : c = 0 ∧ xs ≠ []
    · rw [decide_eq_true e]
      obtain ⟨rfl, e2⟩ := e
      obtain ⟨z, hz⟩ := last_none e2
      have hl : 0 < xs.length := List.length_pos_iff.mpr e2
      refine iteT (turn_of ?_)
      -- deal[1] = deal[0].pop()
      refine ⟨_, rfl, d, _, _, .ref l, rfl, rfl, sqL_of h1, rfl, .inl ⟨rfl, _, sqL_of h2⟩, l, _, _, rfl, rfl, h2, last_get hz, ?_⟩
      have h1' : upd H1 l (.lst ((xs.map V.int).dropLast)) d = some (.lst [.ref l, .int 0, .int k]) := by rw [upd_ne ne]; exact h1
      refine ⟨_, rfl, d, _, _, 1, rfl, rfl, h1', rfl, ?_⟩
      refine ⟨xs.length - 1, by omega, xs.dropLast, z, k, rfl, by simp, by simp; omega, upd_same, ?_, hk, hk2, (g.at (by simp)).at (by simp)⟩
      rw [upd_ne ne.symm, upd_same, List.map_dropLast]
    · rw [decide_eq_false e]
      refine iteF ?_
      -- if deal[1] > 0
      refine ⟨_, rfl, d, _, _, .int c, rfl, rfl, sqL_of h1, rfl, _, _, rfl, rfl, _, rfl, ?_⟩
      by_cases ec : 0 < c
      · rw [decide_eq_true ec]
        refine iteT ?_
        -- digit = int(deal[1]) % amount
        refine ⟨_, rfl, d, _, _, .int c, rfl, rfl, sqL_of h1, rfl, .inl ⟨_, rfl, ?_⟩⟩
        refine ⟨_, rfl, _, _, rfl, rfl, hn, ?_⟩
        -- deal[1] = deal[1] // amount
        refine ⟨_, rfl, d, _, _, .int c, rfl, rfl, sqL_of h1, rfl, _, rfl, _, _, rfl, rfl, divW hn sn, ?_⟩
        refine ⟨_, rfl, d, _, _, 1, rfl, rfl, h1, rfl, ?_⟩
        refine ⟨_, rfl, q _ _ (Int.emod_nonneg _ (by omega)) (Int.emod_lt_of_pos _ hn) ⟨⟨xs, (c / n, k), upd_same, ?_, hx, hk, hk2⟩, g.at (by simp)⟩⟩
        rw [upd_ne ne.symm]
        exact h2
      · rw [decide_eq_false ec]
        refine iteF ?_
        -- deal[2] = int(deal[2] * 48271 + 11) % 2147483647
        refine ⟨_, rfl, d, _, _, .int k, rfl, rfl, sqL_of h1, rfl, _, _, rfl, rfl, mulW (sm_of hk (by omega)) (sm_of (by decide) (by decide)), _, _, rfl, rfl, .inl ⟨_, rfl, ?_⟩⟩
        refine ⟨_, _, rfl, rfl, (show (0 : Int) < 2147483647 by decide), ?_⟩
        refine ⟨_, rfl, d, _, _, 2, rfl, rfl, h1, rfl, ?_⟩
        have b0 : 0 ≤ (k * 48271 + 11) % 2147483647 := by omega
        have b1 : (k * 48271 + 11) % 2147483647 < 2147483647 := by omega
        -- return int(deal[2] // 8) % amount
        refine ⟨_, rfl, d, _, _, _, rfl, rfl, sqL_of upd_same, rfl, _, _, rfl, rfl, divW (by decide) (sm_of (by decide) (by decide)), .inl ⟨_, rfl, ?_⟩⟩
        refine ⟨_, rfl, _, _, rfl, rfl, hn, ?_⟩
        refine q _ _ (Int.emod_nonneg _ (by omega)) (Int.emod_lt_of_pos _ hn) ⟨⟨xs, (c, _), upd_same, ?_, hx, b0, b1⟩, g.at (by simp)⟩
        rw [upd_ne ne.symm]
        exact h2
theorem cut_ints (ns : List Int) (l h : Option Int) : ∃ ms : List Int, cutV (ns.map V.int) l h = ms.map V.int ∧ ms.length ≤ ns.length := by
  unfold cutV
  refine ⟨(ns.drop (HT.sIx (ns.map V.int).length 0 l)).take (HT.sIx (ns.map V.int).length (ns.map V.int).length h - HT.sIx (ns.map V.int).length 0 l), ?_, ?_⟩
  · rw [List.map_take, List.map_drop]
  · rw [List.length_take, List.length_drop]
    omega
abbrev sp_deal (K : PySem.W.Frag) : Sp := Eb.sp_dealer K
theorem ok__law_deal (T : Txt P w K mg F D C) : FnOk P w K mg base CX0 1 (F 76) (D 76) ["_law_script", "_law_radix"] (sp_deal K) := by
  refine T.f__law_deal.ok sc__law_deal (fun vs H Q E h => ?_) (fun cdv A outer s H vs Q E hr h => ?_)
  · obtain ⟨a, ns, k, rfl, hs, hn, k0, k1, q⟩ := h
    rfl
  · obtain ⟨a, ns, k, rfl, hs, hn, k0, k1, q⟩ := h
    refine ⟨_, (pss_cons (ps_setLc (i := 3) (own := [("_law_cell", 2)]) rfl sc__law_deal.nd rfl rfl (sw_true rfl rfl rfl (by decide +kernel)) (pi_list (pe_slice sl_list (pv 0) (po_some (pv 1)) (po_some pe_int))) (blkOk_by (N := ["_law_script", "_law_radix", "_law_cell", "_law_cells", "_law_seed"]) (sc := defScope s__law_deal) (by decide +kernel)) (fun _ _ _ _ _ => (pg_name (i := 2) sc__law_deal.nd rfl (.inl rfl))) (fun _ _ _ _ _ => pts_nil) (fun _ _ _ _ _ => (pe_callB call_abs (by rfl) T.n_abs Eb.bb_abs (pa_cons (pv 2) pa_nil)))) (pss_cons (ps_set (i := 4) sc__law_deal.nd rfl (.inl rfl) (pe_op op_add pe_int (pe_op op_mulW pe_int (pv 1)))) (pss_cons (ps_for PassesOwn.never rfl (pi_list (pv 3)) (pg_name (i := 2) sc__law_deal.nd rfl (.inl rfl)) (pss_one (ps_set (i := 4) sc__law_deal.nd rfl (.inl rfl) (pe_op op_mod (pe_callTy call_int1 (by rfl) T.n_int Eb.bb_int (pa_cons (pe_op op_add (pe_op op_add (pe_op op_mulW (pv 4) pe_int) (pe_op op_mod (pe_callTy call_int1 (by rfl) T.n_int Eb.bb_int (pa_cons (pv 2) pa_nil)) pe_int)) pe_int) pa_nil)) pe_int)))) (pss_one (ps_ret (pe_lst (pa_cons (pe_revL (pe_lc (own := [("_law_cell", 2)]) rfl sc__law_deal.nd (pi_list (pv 3)) (blkOk_by (N := ["_law_script", "_law_radix", "_law_cell", "_law_cells", "_law_seed"]) (sc := defScope s__law_deal) (by decide +kernel)) (fun _ _ _ _ _ => (pg_name (i := 2) sc__law_deal.nd rfl (.inl rfl))) (fun _ _ _ _ _ => (pts_one (pt_cmpR op_ge (pv 2) (pe_op op_pow pe_int pe_int) (nomark _)))) (fun _ _ _ _ _ => (pv 2)))) (pa_cons pe_int (pa_cons (pv 4) pa_nil))))))))), ?_⟩
    obtain ⟨ms, em, hm⟩ := cut_ints ns (some k) (some 63)
    -- cells = [.. for cell in script[base:63]]
    refine ⟨_, rfl, _, rfl, _, rfl, _, rfl, a, _, rfl, hs, fun c hc => ?_⟩
    refine ⟨c, rfl, ⟨_, sqL_new⟩, fun D hD => ?_⟩
    rw [em] at hD ⊢
    have s1 : Same H (upd H c (.lst (ms.map V.int))) := same_new hc
    generalize hH1 : upd H c (.lst (ms.map V.int)) = H1 at hD s1 ⊢
    have hc1 : H1 c = some (.lst (ms.map V.int)) := by rw [← hH1]; exact upd_same
    refine lc_list (K := K) (a := c) (xs := ms.map V.int) (fun i H' => ∃ zs : List Int, zs.length = i ∧ H' D = some (.lst (zs.map V.int)) ∧ Same H1 H') ⟨[], rfl, upd_same, same_new hD⟩ (fun i H' _ ⟨zs, _, _, sm⟩ => sqL_of (sm _ _ hc1)) ?_ ?_
    · rintro i x H' hx ⟨zs, ez, hz, sm⟩
      rw [List.getElem?_map] at hx
      obtain ⟨z, hz', rfl⟩ := Option.map_eq_some_iff.mp hx
      have hi : i < ms.length := (List.getElem?_eq_some_iff.mp hz').1
      refine ⟨rfl, ?_⟩
      have fin : ∀ y : Int, ∃ acc, H' D = some (.lst acc) ∧ acc.length < sizeLine ∧ ∃ zs : List Int, zs.length = i + 1 ∧ upd H' D (.lst (acc ++ [V.int y])) D = some (.lst (zs.map V.int)) ∧ Same H1 (upd H' D (.lst (acc ++ [V.int y]))) := fun y =>
        ⟨_, hz, by rw [List.length_map]; exact szl (by omega), zs ++ [y], by simp [ez], by rw [upd_same, List.map_append]; rfl, same_mut sm hD⟩
      first
        | exact ⟨_, rfl, _, rfl, fin _⟩
        | exact ⟨_, rfl, _, _, rfl, rfl, _, rfl, ite2 (fun _ => ⟨_, rfl, fin z⟩) (fun _ => ⟨_, rfl, _, _, rfl, rfl, fin _⟩)⟩
    · rintro H2 ⟨zs, ez, hz, sm⟩
      rw [List.length_map] at ez
      have s2 : Same H H2 := s1.trans sm
      -- blend = 40960001 + 19 * base
      refine ⟨_, rfl, _, _, rfl, rfl, mulW (sm_of (by decide) (by decide)) (sm_of k0 (by omega)), _, _, rfl, rfl, ?_⟩
      -- for cell in cells
      refine ⟨_, rfl, D, rfl, ⟨_, sqL_of hz⟩, for_list (K := K) (a := D) (xs := zs.map V.int) (fun i σ H' => ∃ (v : Option V) (b : Int), σ = [some (.ref a), some (.int k), v, some (.ref D), some (.int b)] ∧ H' = H2 ∧ 0 ≤ b ∧ b < 2147483647) ⟨none, _, rfl, rfl, by omega, by omega⟩ ?_ ?_ ?_⟩
      · rintro i σ H' _ ⟨v, b, rfl, rfl, _⟩
        exact sqL_of hz
      · rintro i x σ H' hx ⟨v, b, rfl, rfl, b0, b1⟩
        rw [List.getElem?_map] at hx
        obtain ⟨z, hz', rfl⟩ := Option.map_eq_some_iff.mp hx
        refine ⟨_, rfl, _, _, rfl, rfl, mulW (sm_of b0 (by omega)) (sm_of (by decide) (by decide)), _, rfl, .inl ⟨_, rfl, ?_⟩⟩
        refine ⟨_, _, rfl, rfl, (show (0 : Int) < 2147483629 by decide), _, _, rfl, rfl, _, _, rfl, rfl, .inl ⟨_, rfl, ?_⟩⟩
        refine ⟨_, _, rfl, rfl, (show (0 : Int) < 2147483647 by decide), ?_⟩
        exact ⟨_, _, rfl, rfl, Int.emod_nonneg _ (by decide), Int.emod_lt_of_pos _ (by decide)⟩
      · rintro σ H' ⟨v, b, rfl, rfl, b0, b1⟩
        -- [cell for cell in cells if cell >= 10 ** 18][::-1]
        refine ⟨_, rfl, D, rfl, ⟨_, sqL_of hz⟩, fun D2 hD2 => ?_⟩
        refine lc_list (K := K) (a := D) (xs := zs.map V.int) (fun i H3 => ∃ ys : List Int, ys.length ≤ i ∧ H3 D2 = some (.lst (ys.map V.int)) ∧ Same H' H3) ⟨[], Nat.le_refl _, upd_same, same_new hD2⟩ (fun i H3 _ ⟨ys, _, _, sm'⟩ => sqL_of (sm' _ _ hz)) ?_ ?_
        · rintro i x H3 hx ⟨ys, ey, hy, sm'⟩
          rw [List.getElem?_map] at hx
          obtain ⟨z, hz', rfl⟩ := Option.map_eq_some_iff.mp hx
          have hi : i < zs.length := (List.getElem?_eq_some_iff.mp hz').1
          refine ⟨rfl, _, rfl, _, _, rfl, rfl, ⟨by decide, by decide, by decide⟩, _, _, rfl, rfl, _, rfl, ite2 (fun _ => ?_) (fun _ => ?_)⟩
          · refine ⟨_, rfl, _, hy, by rw [List.length_map]; exact szl (by omega), ys ++ [z], by simp; omega, by rw [upd_same, List.map_append]; rfl, same_mut sm' hD2⟩
          · exact ⟨ys, by omega, hy, sm'⟩
        · rintro H3 ⟨ys, ey, hy, sm'⟩
          rw [List.length_map] at ey
          refine ⟨D2, _, rfl, sqL_of hy, fun l hl => ?_⟩
          refine ⟨_, rfl, szr rfl, fun d hd => ?_⟩
          have s3 : Same H3 (upd H3 l (.lst (ys.map V.int).reverse)) := same_new hl
          have s4 := same_new (o := .lst [V.ref l, .int 0, .int b]) hd
          have sA : Same H H3 := s2.trans sm'
          refine q d l _ ((sA.trans s3).trans s4) (sA.free (s3.free hd)) (sA.free hl) ⟨ys.reverse, (0, b), upd_same, ?_, by rw [List.length_reverse]; omega, b0, b1⟩
          refine s4 _ _ ?_
          rw [upd_same, List.map_reverse]

theorem okd__law_draw (T : Txt P w K mg F D C) : FnOk P w K mg base CX0 1 (F 77) (D 77) ["_law_deal_here", "_law_amount"] (spG0 (tbl K C) wpDraw) := draw_g rfl rfl (ok__law_draw T)

end
end K15

namespace K15
open PySem PySem.Spec PyProof.Rows L2 Eb
section
variable {P : Program} {w : World} {K : PySem.W.Frag} {mg : Str → Option Value} {base : Heap} {F : Nat → Addr} {D : Nat → FuncData} {C I : Nat → Addr}
theorem ok_flat_rows (T : Txt P w K mg F D C) (ZX : Exs P K mg C I) : ∀ n, FnOk P w K mg base CX0 (1 + n) (F 27) (D 27) ["rows"] (spF0 (tbl K C) (wp_flat_rows n)) := by
  intro n
  induction n with
  | zero =>
    rw [wpz_flat_rows]
    exact fnF0 (k := 0) T.f_flat_rows sc_flat_rows rfl rfl rfl (fun cdv A outer s H E Z M H0 dl hr => xss_never _ (List.cons_ne_nil _ _))
  | succ n ih =>
    rw [wps_flat_rows]
    exact fnF0 (k := 1 + n) T.f_flat_rows sc_flat_rows rfl rfl rfl (fun cdv A outer s H E Z M H0 dl hr => (xss_cons (xs_setO (i := 1) sc_flat_rows.nd rfl (.inl rfl) (xl_lst xa_nil)) (xss_cons (xs_for PassesOwn.never rfl (xi_tup (xe_var (pv 0))) (xg_name (pg_name (i := 2) sc_flat_rows.nd rfl (.inl rfl))) (xss_cons (xs_app (pv 1) (xe_var (pv 2))) (xss_one (xs_ext (pv 1) (xe_call ih (hr.mono (by omega)) (by rfl) T.g_flat_rows T.f_flat_rows.kp T.b_flat_rows (xa_cons (xe_fld (fo_Row_inner T) (xe_var (pv 2))) xa_nil)))))) (xss_one (xs_frz 1 (xs_ret (xe_var (pv 1))))))))
theorem ok_lines_of (T : Txt P w K mg F D C) (ZX : Exs P K mg C I) : FnOk P w K mg base CX0 1 (F 28) (D 28) ["rows"] (spF0 (tbl K C) wp_lines_of) := by
  unfold wp_lines_of
  exact fnF0 T.f_lines_of sc_lines_of rfl rfl rfl (fun cdv A outer s H E Z M H0 dl hr => (xss_cons (xs_setO (i := 1) sc_lines_of.nd rfl (.inl rfl) (xl_lst xa_nil)) (xss_cons (xs_for PassesOwn.never rfl (xi_tup (xe_var (pv 0))) (xg_name (pg_name (i := 2) sc_lines_of.nd rfl (.inl rfl))) (xss_one (xs_ext (pv 1) (xe_fld (fo_Row_lines T) (xe_var (pv 2)))))) (xss_one (xs_frz 1 (xs_ret (xe_var (pv 1))))))))
theorem ok_rows_of (T : Txt P w K mg F D C) (ZX : Exs P K mg C I) : FnOk P w K mg base (L2.CX P w) 1 (F 26) (D 26) ["value"] (spF (tbl K C) wp_rows_of) := by
  unfold wp_rows_of
  exact fnF T.f_rows_of sc_rows_of rfl rfl rfl (fun cdv A outer s H E Z M H0 dl hr => (xss_cons (xs_if (XW.xt (xw_or (xt_not (xt_truth (xe_isTs (n1 := .list) (n2 := .tuple) (cs := [9, 10, 11, 12, 14, 15, 18, 19]) (is2_list_tuple T) (by rfl) T.n_isinstance (xe_var (pv 0)) (pe_bltn (v := .ty "list") (by rfl) T.n_list Eb.bb_list rfl) (pe_bltn (v := .ty "tuple") (by rfl) T.n_tuple Eb.bb_tuple rfl)) (by intro _; rfl))) (xw_or1 (xt_not (xt_truth (xe_callB (hc_all rfl) snd_all (by rfl) T.n_all Eb.bb_all (xa_cons ((xl_lc (own := [("row", 1)]) rfl sc_rows_of.nd (xi_either (xe_var (pv 0))) (blkOk_by (N := ["value", "row"]) (sc := defScope s_rows_of) (by decide +kernel)) (fun _ _ _ _ _ => (xg_name (pg_name (i := 1) sc_rows_of.nd rfl (.inl rfl)))) (fun _ _ _ _ _ => xts_nil) (fun _ _ _ _ _ => (xe_isC (no_Row T) (sub := [(9, true), (10, true), (11, true), (12, true), (14, false), (15, false), (18, false), (19, false)]) (su_Row T) (by rfl) T.n_isinstance (xe_var (pv 1)) (pe_glob (v := .ref (C 8)) (by rfl) T.gc_Row rfl))))).xe xa_nil)) (by intro _; rfl)))))) (xss_one (xs_raise rfl ZX.x_InvalidRow rfl hr (takes_of rfl rfl rfl rfl) (xa_cons xe_str xa_nil) (by rfl))) xss_nil) (xss_one (xs_ret (xe_callTy hc_tuple snd_tuple (by rfl) T.n_tuple Eb.bb_tuple (xa_cons (xe_var (pv 0)) xa_nil))))))
theorem okr_Program_init (T : Txt P w K mg F D C) (ZX : Exs P K mg C I) : FnR P w K mg base (L2.CX P w) 11 (F 65) (spI (tbl K C) 18 wp_Program_init) := by
  unfold wp_Program_init
  exact fnIXd T.fd_Program_init sc_Program_init ba_Program_init bd_Program_init rfl rfl rfl rfl (fun cdv A outer s H E Z M H0 dl hr => (xss_cons (xs_self (po_Program_rows T) (pv 0) (xe_callX (takes_of rfl rfl rfl rfl) (ok_rows_of T ZX) (hr.mono (by decide)) (by rfl) T.g_rows_of T.f_rows_of.kp T.b_rows_of (xa_cons (xe_var (pv 1)) xa_nil))) (xss_cons (xs_self (po_Program_flat T) (pv 0) (xe_call (ok_flat_rows T ZX 9) (hr.mono (by decide)) (by rfl) T.g_flat_rows T.f_flat_rows.kp T.b_flat_rows (xa_cons (xe_selfF (po_Program_rows T) (pv 0)) xa_nil))) (xss_cons (xs_self (po_Program_lines T) (pv 0) (xe_callTy hc_tuple snd_tuple (by rfl) T.n_tuple Eb.bb_tuple (xa_cons (xe_call (ok_lines_of T ZX) (hr.mono (by decide)) (by rfl) T.g_lines_of T.f_lines_of.kp T.b_lines_of (xa_cons (xe_selfF (po_Program_rows T) (pv 0)) xa_nil)) xa_nil))) (xss_one (xs_self (po_Program_names T) (pv 0) (xe_callTy hc_tuple snd_tuple (by rfl) T.n_tuple Eb.bb_tuple (xa_cons ((xl_sortS2 (own := [("row", 2), ("name", 3)]) (vs1 := [3]) rfl sc_Program_init.nd (by rfl) T.n_sorted (xi_list (xe_selfF (po_Program_flat T) (pv 0))) (blkOk_by (N := ["self", "rows", "row", "name"]) (sc := defScope s_Program_init) (by decide +kernel)) (fun _ _ _ _ _ => (xg_name (pg_name (i := 2) sc_Program_init.nd rfl (.inl rfl)))) (fun _ _ _ _ _ => (xi_tup (xe_fld (fo_Row_used T) (xe_var (pv 2))))) (fun _ _ _ _ _ => (xg_name (pg_name (i := 3) sc_Program_init.nd rfl (.inl rfl)))) (fun _ _ _ _ _ => (xe_callTy (fun _ => callE call_str_int SkE.call_str_str) snd_str (by rfl) T.n_str Eb.bb_str (xa_cons (xe_var (pv 3)) xa_nil))))).xe xa_nil))))))))
theorem okL_Program_init (T : Txt P w K mg F D C) (ZX : Exs P K mg C I) : FnR P w K mg base CX0 11 (F 65) (spIL (tbl K C) 18 wpL_Program_init) := by
  unfold wpL_Program_init
  exact fnI0L T.fd_Program_init sc_Program_init ba_Program_init rfl rfl rfl rfl rfl (fun cdv A outer s H E Z M H0 dl hr => (xs_self (po_Program_rows T) (pv 0) (xe_call (calm (ok_rows_of T ZX)) (hr.mono (by decide)) (by rfl) T.g_rows_of T.f_rows_of.kp T.b_rows_of (xa_cons (xe_var (pv 1)) xa_nil)))) (fun cdv A outer s H E Z M H0 dl hr => (xss_cons (xs_self (po_Program_flat T) (pv 0) (xe_call (ok_flat_rows T ZX 9) (hr.mono (by decide)) (by rfl) T.g_flat_rows T.f_flat_rows.kp T.b_flat_rows (xa_cons (xe_selfF (po_Program_rows T) (pv 0)) xa_nil))) (xss_cons (xs_self (po_Program_lines T) (pv 0) (xe_callTy hc_tuple snd_tuple (by rfl) T.n_tuple Eb.bb_tuple (xa_cons (xe_call (ok_lines_of T ZX) (hr.mono (by decide)) (by rfl) T.g_lines_of T.f_lines_of.kp T.b_lines_of (xa_cons (xe_selfF (po_Program_rows T) (pv 0)) xa_nil)) xa_nil))) (xss_one (xs_self (po_Program_names T) (pv 0) (xe_callTy hc_tuple snd_tuple (by rfl) T.n_tuple Eb.bb_tuple (xa_cons ((xl_sortS2 (own := [("row", 2), ("name", 3)]) (vs1 := [3]) rfl sc_Program_init.nd (by rfl) T.n_sorted (xi_list (xe_selfF (po_Program_flat T) (pv 0))) (blkOk_by (N := ["self", "rows", "row", "name"]) (sc := defScope s_Program_init) (by decide +kernel)) (fun _ _ _ _ _ => (xg_name (pg_name (i := 2) sc_Program_init.nd rfl (.inl rfl)))) (fun _ _ _ _ _ => (xi_tup (xe_fld (fo_Row_used T) (xe_var (pv 2))))) (fun _ _ _ _ _ => (xg_name (pg_name (i := 3) sc_Program_init.nd rfl (.inl rfl)))) (fun _ _ _ _ _ => (xe_callTy (fun _ => callE call_str_int SkE.call_str_str) snd_str (by rfl) T.n_str Eb.bb_str (xa_cons (xe_var (pv 3)) xa_nil))))).xe xa_nil)))))))
theorem ok_Sheet_made (T : Txt P w K mg F D C) (ZX : Exs P K mg C I) : FnOk P w K mg base CX0 13 (F 70) (D 70) ["self"] (spF0 (tbl K C) wp_Sheet_made) := by
  unfold wp_Sheet_made
  exact fnF0 T.f_Sheet_made sc_Sheet_made rfl rfl rfl (fun cdv A outer s H E Z M H0 dl hr => (xss_one (xs_ret (xe_makeR T.mk_Program (calmR (okr_Program_init T ZX)) (hr.mono (by decide)) (by rfl) T.gc_Program (xa_cons (xe_fld (fo_Sheet_rows T) (xe_var (pv 0))) xa_nil)))))
theorem ok_Row_eq (T : Txt P w K mg F D C) (ZX : Exs P K mg C I) : FnOk P w K mg base CX0 1 (F 30) (D 30) ["self", "other"] (spF0 (tbl K C) wp_Row_eq) := by
  unfold wp_Row_eq
  exact fnF0 T.f_Row_eq sc_Row_eq rfl rfl rfl (fun cdv A outer s H E Z M H0 dl hr => (xss_one (xs_ret (xe_andT (xe_isC (no_Row T) (sub := [(9, true), (10, true), (11, true), (12, true), (14, false), (15, false), (18, false), (19, false)]) (su_Row T) (by rfl) T.n_isinstance (xe_var (pv 1)) (pe_glob (v := .ref (C 8)) (by rfl) T.gc_Row rfl)) (xe_one (xe_cmp (ho_eq hr.units) snd_eq (xe_fld (fo_Row_lines T) (xe_var (pv 0))) (xe_fld (fo_Row_lines T) (xe_var (pv 1))) (nomark _)))))))
theorem ok_Sheet_need_place (T : Txt P w K mg F D C) (ZX : Exs P K mg C I) : FnOk P w K mg base (L2.CX P w) 1 (F 68) (D 68) ["self", "at"] (spF (tbl K C) wp_Sheet_need_place) := by
  unfold wp_Sheet_need_place
  exact fnF T.f_Sheet_need_place sc_Sheet_need_place rfl rfl rfl (fun cdv A outer s H E Z M H0 dl hr => (xss_one (xs_if (xt_not (xt_chain (fun _ => op_le) snd_le (fun _ => op_lt) snd_lt xe_int (xe_var (pv 1)) (xe_callB hc_len snd_len (by rfl) T.n_len Eb.bb_len (xa_cons (xe_fld (fo_Sheet_rows T) (xe_var (pv 0))) xa_nil)))) (xss_one (xs_raise rfl ZX.x_NoRow rfl hr (takes_of rfl rfl rfl rfl) (xa_cons (xe_var (pv 1)) xa_nil) (by rfl))) xss_nil)))
theorem ok_Sheet_getitem (T : Txt P w K mg F D C) (ZX : Exs P K mg C I) : FnOk P w K mg base (L2.CX P w) 2 (F 71) (D 71) ["self", "at"] (spF (tbl K C) wp_Sheet_getitem) := by
  unfold wp_Sheet_getitem
  exact fnF T.f_Sheet_getitem sc_Sheet_getitem rfl rfl rfl (fun cdv A outer s H E Z M H0 dl hr => (xss_cons (xs_expr (xe_methX (c := 19) (takes_of rfl rfl rfl rfl) (xe_var (pv 0)) T.cl_Sheet T.me_Sheet_need_place (nm_Sheet_need_place K C) (ok_Sheet_need_place T ZX) (hr.mono (by decide)) T.b_Sheet_need_place (xa_cons (xe_var (pv 1)) xa_nil))) (xss_one (xs_ret (xe_ix (xe_fld (fo_Sheet_rows T) (xe_var (pv 0))) (xe_var (pv 1)))))))
theorem ok__law_ask_text (T : Txt P w K mg F D C) (ZX : Exs P K mg C I) : ∀ n, FnOk P w K mg base CX0 (1 + n) (F 85) (D 85) ["_law_test"] (spF0 (tbl K C) (wp__law_ask_text n)) := by
  intro n
  induction n with
  | zero =>
    rw [wpz__law_ask_text]
    exact fnF0 (k := 0) T.f__law_ask_text sc__law_ask_text rfl rfl rfl (fun cdv A outer s H E Z M H0 dl hr => xss_never _ (List.cons_ne_nil _ _))
  | succ n ih =>
    rw [wps__law_ask_text]
    exact fnF0 (k := 1 + n) T.f__law_ask_text sc__law_ask_text rfl rfl rfl (fun cdv A outer s H E Z M H0 dl hr => (xss_one (xs_ret (xe_if (xt_cmp (ho_eq hr.units) snd_eq (xe_ix (xe_var (pv 0)) xe_int) xe_str (nomark _)) (xe_add xe_str (xe_call ih (hr.mono (by omega)) (by rfl) T.g__law_ask_text T.f__law_ask_text.kp T.b__law_ask_text (xa_cons (xe_ix (xe_var (pv 0)) xe_int) xa_nil))) (xe_join xe_str (xe_add ((xl_lst (xa_cons (xe_ix (xe_var (pv 0)) xe_int) xa_nil))).xe ((xl_callTy hc_list snd_list (by rfl) T.n_list Eb.bb_list (xa_cons (xe_ix (xe_var (pv 0)) xe_int) xa_nil))).xe))))))
theorem ok__law_lines_grp (T : Txt P w K mg F D C) (ZX : Exs P K mg C I) : ∀ n, FnOk P w K mg base CX0 (10 + n) (F 86) (D 86) ["_law_row"] (spF0 (tbl K C) (wp__law_lines n)) ∧ FnOk P w K mg base CX0 (10 + n) (F 87) (D 87) ["_law_rows_here"] (spF0 (tbl K C) (wp__law_all_lines n)) := by
  intro n
  induction n with
  | zero =>
    rw [wpz__law_lines, wpz__law_all_lines]
    exact ⟨fnF0 (k := 9) T.f__law_lines sc__law_lines rfl rfl rfl (fun cdv A outer s H E Z M H0 dl hr => xss_never _ (List.cons_ne_nil _ _)), fnF0 (k := 9) T.f__law_all_lines sc__law_all_lines rfl rfl rfl (fun cdv A outer s H E Z M H0 dl hr => xss_never _ (List.cons_ne_nil _ _))⟩
  | succ n ih =>
    obtain ⟨ih__law_lines, ih__law_all_lines⟩ := ih
    rw [wps__law_lines, wps__law_all_lines]
    refine ⟨?_, ?_⟩
    · exact fnF0 (k := 10 + n) T.f__law_lines sc__law_lines rfl rfl rfl (fun cdv A outer s H E Z M H0 dl hr => (xss_cons (xs_if (xt_cmp (ho_eq hr.units) snd_eq (xe_ix (xe_var (pv 0)) xe_int) xe_str (nomark _)) (xss_one (xs_ret ((xl_lst (xa_cons xe_str xa_nil))).xe)) xss_nil) (xss_cons (xs_if (xt_cmp (ho_eq hr.units) snd_eq (xe_ix (xe_var (pv 0)) xe_int) xe_str (nomark _)) (xss_cons (xs_lcV (own := [("_law_arg", 3)]) (i := 1) rfl sc__law_lines.nd rfl rfl (sw_true rfl rfl rfl (by decide +kernel)) (xi_tup (xe_ix (xe_var (pv 0)) xe_int)) (blkOk_by (N := ["_law_row", "_law_words_here", "_law_inner", "_law_arg"]) (sc := defScope s__law_lines) (by decide +kernel)) (fun _ _ _ _ _ => (xg_name (pg_name (i := 3) sc__law_lines.nd rfl (.inl rfl)))) (fun _ _ _ _ _ => xts_nil) (fun _ _ _ _ _ => (xe_callTy (fun _ => callE call_str_int SkE.call_str_str) snd_str (by rfl) T.n_str Eb.bb_str (xa_cons (xe_var (pv 3)) xa_nil)))) (xss_cons (xs_if (xt_cmp ho_in snd_in (xe_ix (xe_var (pv 0)) xe_int) (xe_tup (xa_cons xe_str (xa_cons xe_str (xa_cons xe_str (xa_cons xe_str (xa_cons xe_str xa_nil)))))) (by rfl)) (xss_one (xs_ret ((xl_lst (xa_cons (xe_add (xe_add (xe_add (xe_add (xe_add (xe_add (xe_ix (xe_var (pv 0)) xe_int) xe_str) (xe_ix (xe_var (pv 1)) xe_int)) xe_str) (xe_ix (xe_var (pv 0)) xe_int)) xe_str) (xe_ix (xe_var (pv 1)) xe_int)) xa_nil))).xe)) xss_nil) (xss_one (xs_ret ((xl_lst (xa_cons (xe_join xe_str (xe_add ((xl_lst (xa_cons (xe_ix (xe_var (pv 0)) xe_int) (xa_cons xe_str (xa_cons (xe_ix (xe_var (pv 0)) xe_int) xa_nil))))).xe (xe_var (pv 1)))) xa_nil))).xe)))) xss_nil) (xss_cons (xs_set (i := 2) sc__law_lines.nd rfl (.inl rfl) (xe_call ih__law_all_lines (hr.mono (by omega)) (by rfl) T.g__law_all_lines T.f__law_all_lines.kp T.b__law_all_lines (xa_cons (xe_ix (xe_var (pv 0)) xe_int) xa_nil))) (xss_cons (xs_if (xt_cmp (ho_eq hr.units) snd_eq (xe_ix (xe_var (pv 0)) xe_int) xe_str (nomark _)) (xss_one (xs_ret (xe_add (xe_add ((xl_lst (xa_cons (xe_add xe_str (xe_callTy (fun _ => callE call_str_int SkE.call_str_str) snd_str (by rfl) T.n_str Eb.bb_str (xa_cons (xe_ix (xe_var (pv 0)) xe_int) xa_nil))) xa_nil))).xe (xe_var (pv 2))) ((xl_lst (xa_cons xe_str xa_nil))).xe))) xss_nil) (xss_cons (xs_if (xt_cmp (fun _ => op_gt) snd_gt (xe_callB hc_len snd_len (by rfl) T.n_len Eb.bb_len (xa_cons (xe_ix (xe_var (pv 0)) xe_int) xa_nil)) xe_int (nomark _)) (xss_one (xs_set (i := 2) sc__law_lines.nd rfl (.inl rfl) (xe_add (xe_add (xe_var (pv 2)) ((xl_lst (xa_cons xe_str xa_nil))).xe) (xe_call ih__law_all_lines (hr.mono (by omega)) (by rfl) T.g__law_all_lines T.f__law_all_lines.kp T.b__law_all_lines (xa_cons (xe_ix (xe_var (pv 0)) xe_int) xa_nil))))) xss_nil) (xss_one (xs_ret (xe_add (xe_add ((xl_lst (xa_cons (xe_add xe_str (xe_call (ok__law_ask_text T ZX 9) (hr.mono (by omega)) (by rfl) T.g__law_ask_text T.f__law_ask_text.kp T.b__law_ask_text (xa_cons (xe_ix (xe_var (pv 0)) xe_int) xa_nil))) xa_nil))).xe (xe_var (pv 2))) ((xl_lst (xa_cons xe_str xa_nil))).xe)))))))))
    · exact fnF0 (k := 10 + n) T.f__law_all_lines sc__law_all_lines rfl rfl rfl (fun cdv A outer s H E Z M H0 dl hr => (xss_cons (xs_setO (i := 1) sc__law_all_lines.nd rfl (.inl rfl) (xl_lst xa_nil)) (xss_cons (xs_for PassesOwn.never rfl (xi_either (xe_var (pv 0))) (xg_name (pg_name (i := 2) sc__law_all_lines.nd rfl (.inl rfl))) (xss_one (xs_ext (pv 1) (xe_call ih__law_lines (hr.mono (by omega)) (by rfl) T.g__law_lines T.f__law_lines.kp T.b__law_lines (xa_cons (xe_var (pv 2)) xa_nil))))) (xss_one (xs_frz 1 (xs_ret (xe_var (pv 1))))))))
theorem ok__law_lines (T : Txt P w K mg F D C) (ZX : Exs P K mg C I) (n : Nat) : FnOk P w K mg base CX0 (10 + n) (F 86) (D 86) ["_law_row"] (spF0 (tbl K C) (wp__law_lines n)) := (ok__law_lines_grp T ZX n).1
theorem ok__law_all_lines (T : Txt P w K mg F D C) (ZX : Exs P K mg C I) (n : Nat) : FnOk P w K mg base CX0 (10 + n) (F 87) (D 87) ["_law_rows_here"] (spF0 (tbl K C) (wp__law_all_lines n)) := (ok__law_lines_grp T ZX n).2
theorem ok_Test_init_Ask (T : Txt P w K mg F D C) (ZX : Exs P K mg C I) : FnOk P w K mg base CX0 1 (F 37) (D 37) ["self", "text", "used"] (spIS (tbl K C) 14 wp_Test_init_Ask) := by
  unfold wp_Test_init_Ask
  exact fnIS T.f_Test_init sc_Test_init rfl rfl rfl (fun cdv A outer s H E Z M H0 dl hr => (xss_cons (xs_self (po_Ask_text T) (pv 0) (xe_var (pv 1))) (xss_one (xs_self (po_Ask_used T) (pv 0) (xe_callTy hc_tuple snd_tuple (by rfl) T.n_tuple Eb.bb_tuple (xa_cons (xe_var (pv 2)) xa_nil))))))
theorem ok_is_name (T : Txt P w K mg F D C) (ZX : Exs P K mg C I) : FnOk P w K mg base CX0 1 (F 4) (D 4) ["value"] (spF0 (tbl K C) wp_is_name) := by
  unfold wp_is_name
  exact fnF0 T.f_is_name sc_is_name rfl rfl rfl (fun cdv A outer s H E Z M H0 dl hr => (xss_cons (xs_if (XW.xt (xw_or (xt_not (xt_truth (xe_isT (n := .str) (cs := [9, 10, 11, 12, 14, 15, 18, 19]) (is_str T) (by rfl) T.n_isinstance (xe_var (pv 0)) (pe_bltn (v := .ty "str") (by rfl) T.n_str Eb.bb_str rfl)) (by intro _; rfl))) (xw_or1 (xt_not (xt_chain (fun _ => op_le) snd_le (fun _ => op_le) snd_le xe_int (xe_callB hc_len snd_len (by rfl) T.n_len Eb.bb_len (xa_cons (xe_var (pv 0)) xa_nil)) (xe_of (C8.pe_gc (by rfl) T.v_MOST_SIGNS) (snd_c fun _ => rfl))))))) (xss_one (xs_ret xe_bl)) xss_nil) (xss_one (xs_ret (xe_callB (hc_all rfl) snd_all (by rfl) T.n_all Eb.bb_all (xa_cons ((xl_lc (own := [("sign", 1)]) rfl sc_is_name.nd (xi_str (xe_var (pv 0))) (blkOk_by (N := ["value", "sign"]) (sc := defScope s_is_name) (by decide +kernel)) (fun _ _ _ _ _ => (xg_name (pg_name (i := 1) sc_is_name.nd rfl (.inl rfl)))) (fun _ _ _ _ _ => xts_nil) (fun _ _ _ _ _ => (xe_cmp (fun _ => op_inSg) snd_inSg (xe_var (pv 1)) (xe_of (C8.pe_gc (by rfl) T.v_NAME_SIGNS) (snd_c (d := .str "abcdefghijklmnopqrstuvwxyz") fun _ => rfl)) (by rfl))))).xe xa_nil))))))
theorem okr_Ask_init (T : Txt P w K mg F D C) (ZX : Exs P K mg C I) : FnR P w K mg base CX0 2 (F 40) (spI0 (tbl K C) 14 wp_Ask_init) := by
  unfold wp_Ask_init
  exact fnISupV0 T.sp_Ask_init sb_Ask_init bs_Ask_init (ok_Test_init_Ask T ZX) T.b_Test_init rfl rfl rfl rfl (fun cda cc A outer s H E Z M H0 dl hr => ⟨(xss_cons (xs_if (XW.xt (xw_or (xt_not (xt_truth (xe_isT (n := .str) (cs := [9, 10, 11, 12, 14, 15, 18, 19]) (is_str T) (by rfl) T.n_isinstance (xe_var (pv 1)) (pe_bltn (v := .ty "str") (by rfl) T.n_str Eb.bb_str rfl)) (by intro _; rfl))) (xw_or1 (xt_gnotin (by rfl) T.gd_ASKED (xe_var (pv 1)))))) (xss_one xs_never) xss_nil) (xss_one (xs_if (XW.xt (xw_or (xt_cmp (ho_ne hr.units) snd_ne (xe_callB hc_len snd_len (by rfl) T.n_len Eb.bb_len (xa_cons (xe_var (pv 2)) xa_nil)) (xe_gix (by rfl) T.gd_ASKED (xe_var (pv 1))) (nomark _)) (xw_or1 (xt_not (xt_truth (xe_callB (hc_all rfl) snd_all (by rfl) T.n_all Eb.bb_all (xa_cons ((xl_lc (own := [("name", 3)]) rfl sc_Ask_init.nd (xi_tup (xe_var (pv 2))) (blkOk_by (N := ["self", "word", "names", "name"]) (sc := defScope s_Ask_init) (by decide +kernel)) (fun _ _ _ _ _ => (xg_name (pg_name (i := 3) sc_Ask_init.nd rfl (.inl rfl)))) (fun _ _ _ _ _ => xts_nil) (fun _ _ _ _ _ => (xe_call (ok_is_name T ZX) (hr.mono (by decide)) (by rfl) T.g_is_name T.f_is_name.kp T.b_is_name (xa_cons (xe_var (pv 3)) xa_nil))))).xe xa_nil)) (by intro _; rfl)))))) (xss_one xs_never) xss_nil))), (xa_cons (xe_join xe_str (xe_add ((xl_lst (xa_cons (xe_var (pv 1)) xa_nil))).xe ((xl_callTy hc_list snd_list (by rfl) T.n_list Eb.bb_list (xa_cons (xe_var (pv 2)) xa_nil))).xe)) (xa_cons (xe_var (pv 2)) xa_nil)), (xss_cons (xs_self (po_Ask_word T) (pv 0) (xe_var (pv 1))) (xss_one (xs_self (po_Ask_names T) (pv 0) (xe_var (pv 2)))))⟩)
theorem ok_Test_init_Not (T : Txt P w K mg F D C) (ZX : Exs P K mg C I) : FnOk P w K mg base CX0 2 (F 37) (D 37) ["self", "text", "used"] (spIS (tbl K C) 15 wp_Test_init_Not) := by
  unfold wp_Test_init_Not
  exact fnIS T.f_Test_init sc_Test_init rfl rfl rfl (fun cdv A outer s H E Z M H0 dl hr => (xss_cons (xs_self (po_Not_text T) (pv 0) (xe_var (pv 1))) (xss_one (xs_self (po_Not_used T) (pv 0) (xe_callTy hc_tuple snd_tuple (by rfl) T.n_tuple Eb.bb_tuple (xa_cons (xe_var (pv 2)) xa_nil))))))
theorem ok_Test_str (T : Txt P w K mg F D C) (ZX : Exs P K mg C I) : FnOk P w K mg base CX0 1 (F 39) (D 39) ["self"] (spF0 (tbl K C) wp_Test_str) := by
  unfold wp_Test_str
  exact fnF0 T.f_Test_str sc_Test_str rfl rfl rfl (fun cdv A outer s H E Z M H0 dl hr => (xss_one (xs_ret (xe_joined1 (xe_fmt (xe_fld (fo_Test_text T) (xe_var (pv 0))))))))
theorem okr_Not_init (T : Txt P w K mg F D C) (ZX : Exs P K mg C I) : FnR P w K mg base CX0 3 (F 41) (spI0 (tbl K C) 15 wp_Not_init) := by
  unfold wp_Not_init
  exact fnISup0 T.sp_Not_init sb_Not_init ba_Not_init (ok_Test_init_Not T ZX) T.b_Test_init rfl rfl rfl rfl (fun cda cc A outer s H E Z M H0 dl hr => ⟨(xss_one (xs_if (xt_not (xt_truth (xe_isC (no_Test T) (sub := [(9, false), (10, false), (11, false), (12, false), (14, true), (15, true), (18, false), (19, false)]) (su_Test T) (by rfl) T.n_isinstance (xe_var (pv 1)) (pe_glob (v := .ref (C 13)) (by rfl) T.gc_Test rfl)) (by intro _; rfl))) (xss_one xs_never) xss_nil)), (xa_cons (xe_joined (.cons xe_str (.cons (xe_fmtM (so_Test T) T.mi_Ask_str.fn (raw0 (ok_Test_str T ZX) T.b_Test_str) (hr.mono (by decide)) (xe_var (pv 1))) .nil))) (xa_cons (xe_fld (fo_Test_used T) (xe_var (pv 1))) xa_nil)), (xss_one (xs_self (po_Not_test T) (pv 0) (xe_var (pv 1))))⟩)
theorem ok__law_ask_of (T : Txt P w K mg F D C) (ZX : Exs P K mg C I) : ∀ n, FnOk P w K mg base CX0 (4 + n) (F 88) (D 88) ["_law_test"] (spF0 (tbl K C) (wp__law_ask_of n)) := by
  intro n
  induction n with
  | zero =>
    rw [wpz__law_ask_of]
    exact fnF0 (k := 3) T.f__law_ask_of sc__law_ask_of rfl rfl rfl (fun cdv A outer s H E Z M H0 dl hr => xss_never _ (List.cons_ne_nil _ _))
  | succ n ih =>
    rw [wps__law_ask_of]
    exact fnF0 (k := 4 + n) T.f__law_ask_of sc__law_ask_of rfl rfl rfl (fun cdv A outer s H E Z M H0 dl hr => (xss_cons (xs_if (xt_cmp (ho_eq hr.units) snd_eq (xe_ix (xe_var (pv 0)) xe_int) xe_str (nomark _)) (xss_one (xs_ret (xe_makeR T.mk_Not (okr_Not_init T ZX) (hr.mono (by omega)) (by rfl) T.gc_Not (xa_cons (xe_call ih (hr.mono (by omega)) (by rfl) T.g__law_ask_of T.f__law_ask_of.kp T.b__law_ask_of (xa_cons (xe_ix (xe_var (pv 0)) xe_int) xa_nil)) xa_nil)))) xss_nil) (xss_cons (xs_if (xt_cmp (ho_eq hr.units) snd_eq (xe_callB hc_len snd_len (by rfl) T.n_len Eb.bb_len (xa_cons (xe_ix (xe_var (pv 0)) xe_int) xa_nil)) xe_int (nomark _)) (xss_one (xs_ret (xe_makeR T.mk_Ask (okr_Ask_init T ZX) (hr.mono (by omega)) (by rfl) T.gc_Ask (xa_cons (xe_ix (xe_var (pv 0)) xe_int) (xa_cons (xe_ix (xe_ix (xe_var (pv 0)) xe_int) xe_int) xa_nil))))) xss_nil) (xss_one (xs_ret (xe_makeR T.mk_Ask (okr_Ask_init T ZX) (hr.mono (by omega)) (by rfl) T.gc_Ask (xa_cons (xe_ix (xe_var (pv 0)) xe_int) (xa_cons (xe_ix (xe_ix (xe_var (pv 0)) xe_int) xe_int) (xa_cons (xe_ix (xe_ix (xe_var (pv 0)) xe_int) xe_int) xa_nil)))))))))
theorem ok_Row_init_If (T : Txt P w K mg F D C) (ZX : Exs P K mg C I) : FnOk P w K mg base CX0 2 (F 29) (D 29) ["self", "lines", "inner", "used"] (spIS (tbl K C) 11 wp_Row_init_If) := by
  unfold wp_Row_init_If
  exact fnIS T.f_Row_init sc_Row_init rfl rfl rfl (fun cdv A outer s H E Z M H0 dl hr => (xss_cons (xs_self (po_If_lines T) (pv 0) (xe_callTy hc_tuple snd_tuple (by rfl) T.n_tuple Eb.bb_tuple (xa_cons (xe_var (pv 1)) xa_nil))) (xss_cons (xs_self (po_If_inner T) (pv 0) (xe_callTy hc_tuple snd_tuple (by rfl) T.n_tuple Eb.bb_tuple (xa_cons (xe_var (pv 2)) xa_nil))) (xss_one (xs_self (po_If_used T) (pv 0) (xe_callTy hc_tuple snd_tuple (by rfl) T.n_tuple Eb.bb_tuple (xa_cons (xe_var (pv 3)) xa_nil)))))))
theorem okr_If_init (T : Txt P w K mg F D C) (ZX : Exs P K mg C I) : FnR P w K mg base CX0 3 (F 35) (spI0 (tbl K C) 11 wp_If_init) := by
  unfold wp_If_init
  exact fnISup0 T.sp_If_init sb_If_init ba_If_init (ok_Row_init_If T ZX) T.b_Row_init rfl rfl rfl rfl (fun cda cc A outer s H E Z M H0 dl hr => ⟨(xss_cons (xs_if (xt_not (xt_truth (xe_isC (no_Test T) (sub := [(9, false), (10, false), (11, false), (12, false), (14, true), (15, true), (18, false), (19, false)]) (su_Test T) (by rfl) T.n_isinstance (xe_var (pv 1)) (pe_glob (v := .ref (C 13)) (by rfl) T.gc_Test rfl)) (by intro _; rfl))) (xss_one xs_never) xss_nil) (xss_cons (xs_self (po_If_test T) (pv 0) (xe_var (pv 1))) (xss_cons (xs_self (po_If_rows T) (pv 0) (xe_call (calm (ok_rows_of T ZX)) (hr.mono (by decide)) (by rfl) T.g_rows_of T.f_rows_of.kp T.b_rows_of (xa_cons (xe_var (pv 2)) xa_nil))) (xss_cons (xs_self (po_If_others T) (pv 0) (xe_call (calm (ok_rows_of T ZX)) (hr.mono (by decide)) (by rfl) T.g_rows_of T.f_rows_of.kp T.b_rows_of (xa_cons (xe_var (pv 3)) xa_nil))) (xss_cons (xs_set (i := 4) sc_If_init.nd rfl (.inl rfl) (xe_if (xt_cmp (ho_eq hr.units) snd_eq (xe_callB hc_len snd_len (by rfl) T.n_len Eb.bb_len (xa_cons (xe_selfF (po_If_others T) (pv 0)) xa_nil)) xe_int (nomark _)) ((xl_lst xa_nil)).xe (xe_add ((xl_lst (xa_cons xe_str xa_nil))).xe (xe_call (ok_lines_of T ZX) (hr.mono (by decide)) (by rfl) T.g_lines_of T.f_lines_of.kp T.b_lines_of (xa_cons (xe_selfF (po_If_others T) (pv 0)) xa_nil))))) (xss_one (xs_set (i := 5) sc_If_init.nd rfl (.inl rfl) (xe_add (xe_add (xe_add ((xl_lst (xa_cons (xe_joined (.cons xe_str (.cons (xe_fmtM (so_Test T) T.mi_Ask_str.fn (raw0 (ok_Test_str T ZX) T.b_Test_str) (hr.mono (by decide)) (xe_var (pv 1))) .nil))) xa_nil))).xe (xe_call (ok_lines_of T ZX) (hr.mono (by decide)) (by rfl) T.g_lines_of T.f_lines_of.kp T.b_lines_of (xa_cons (xe_selfF (po_If_rows T) (pv 0)) xa_nil))) (xe_var (pv 4))) ((xl_lst (xa_cons xe_str xa_nil))).xe)))))))), (xa_cons (xe_var (pv 5)) (xa_cons (xe_add (xe_selfF (po_If_rows T) (pv 0)) (xe_selfF (po_If_others T) (pv 0))) (xa_cons (xe_fld (fo_Test_used T) (xe_var (pv 1))) xa_nil))), xss_nil⟩)
theorem ok_Row_init_Put (T : Txt P w K mg F D C) (ZX : Exs P K mg C I) : FnOk P w K mg base CX0 3 (F 29) (D 29) ["self", "lines", "inner", "used"] (spIS (tbl K C) 9 wp_Row_init_Put) := by
  unfold wp_Row_init_Put
  exact fnIS T.f_Row_init sc_Row_init rfl rfl rfl (fun cdv A outer s H E Z M H0 dl hr => (xss_cons (xs_self (po_Put_lines T) (pv 0) (xe_callTy hc_tuple snd_tuple (by rfl) T.n_tuple Eb.bb_tuple (xa_cons (xe_var (pv 1)) xa_nil))) (xss_cons (xs_self (po_Put_inner T) (pv 0) (xe_callTy hc_tuple snd_tuple (by rfl) T.n_tuple Eb.bb_tuple (xa_cons (xe_var (pv 2)) xa_nil))) (xss_one (xs_self (po_Put_used T) (pv 0) (xe_callTy hc_tuple snd_tuple (by rfl) T.n_tuple Eb.bb_tuple (xa_cons (xe_var (pv 3)) xa_nil)))))))
theorem ok_is_integer (T : Txt P w K mg F D C) (ZX : Exs P K mg C I) : FnOk P w K mg base CX0 1 (F 1) (D 1) ["value"] (spF0 (tbl K C) wp_is_integer) := by
  unfold wp_is_integer
  exact fnF0 T.f_is_integer sc_is_integer rfl rfl rfl (fun cdv A outer s H E Z M H0 dl hr => (xss_one (xs_ret (xe_andT (xe_isT (n := .int) (cs := [9, 10, 11, 12, 14, 15, 18, 19]) (is_int T) (by rfl) T.n_isinstance (xe_var (pv 0)) (pe_bltn (v := .ty "int") (by rfl) T.n_int Eb.bb_int rfl)) (xe_one (xe_notT (xe_isT (n := .bool) (cs := [9, 10, 11, 12, 14, 15, 18, 19]) (is_bool T) (by rfl) T.n_isinstance (xe_var (pv 0)) (pe_bltn (v := .ty "bool") (by rfl) T.n_bool Eb.bb_bool rfl))))))))
theorem ok_is_number (T : Txt P w K mg F D C) (ZX : Exs P K mg C I) : FnOk P w K mg base CX0 2 (F 2) (D 2) ["value"] (spF0 (tbl K C) wp_is_number) := by
  unfold wp_is_number
  exact fnF0 T.f_is_number sc_is_number rfl rfl rfl (fun cdv A outer s H E Z M H0 dl hr => (xss_one (xs_ret (xe_andT (xe_call (ok_is_integer T ZX) (hr.mono (by decide)) (by rfl) T.g_is_integer T.f_is_integer.kp T.b_is_integer (xa_cons (xe_var (pv 0)) xa_nil)) (xe_one (xe_cmp (fun _ => op_ge) snd_ge (xe_var (pv 0)) xe_int (nomark _)))))))
theorem ok_are_given (T : Txt P w K mg F D C) (ZX : Exs P K mg C I) : FnOk P w K mg base CX0 3 (F 24) (D 24) ["deed", "given"] (spF0 (tbl K C) wp_are_given) := by
  unfold wp_are_given
  exact fnF0 T.f_are_given sc_are_given rfl rfl rfl (fun cdv A outer s H E Z M H0 dl hr => (xss_cons (xs_if (xt_cmp (ho_eq hr.units) snd_eq (xe_var (pv 0)) xe_str (nomark _)) (xss_one (xs_ret (xe_andT (xe_cmp (fun _ => op_gt) snd_gt (xe_callB hc_len snd_len (by rfl) T.n_len Eb.bb_len (xa_cons (xe_var (pv 1)) xa_nil)) xe_int (nomark _)) (xe_one (xe_callB (hc_all rfl) snd_all (by rfl) T.n_all Eb.bb_all (xa_cons ((xl_lc (own := [("arg", 4)]) rfl sc_are_given.nd (xi_tup (xe_var (pv 1))) (blkOk_by (N := ["deed", "given", "kinds", "kind", "arg"]) (sc := defScope s_are_given) (by decide +kernel)) (fun _ _ _ _ _ => (xg_name (pg_name (i := 4) sc_are_given.nd rfl (.inl rfl)))) (fun _ _ _ _ _ => xts_nil) (fun _ _ _ _ _ => (xe_call (ok_is_number T ZX) (hr.mono (by decide)) (by rfl) T.g_is_number T.f_is_number.kp T.b_is_number (xa_cons (xe_var (pv 4)) xa_nil))))).xe xa_nil)))))) xss_nil) (xss_cons (xs_set (i := 2) sc_are_given.nd rfl (.inl rfl) (xe_gget2 (by rfl) T.gd_SIGNS (xe_var (pv 0)) (xe_gget2 (by rfl) T.gd_PLAIN (xe_var (pv 0)) xe_str))) (xss_cons (xs_if (xt_cmp (ho_ne hr.units) snd_ne (xe_callB hc_len snd_len (by rfl) T.n_len Eb.bb_len (xa_cons (xe_var (pv 1)) xa_nil)) (xe_callB hc_len snd_len (by rfl) T.n_len Eb.bb_len (xa_cons (xe_var (pv 2)) xa_nil)) (nomark _)) (xss_one (xs_ret xe_bl)) xss_nil) (xss_one (xs_ret (xe_callB (hc_all rfl) snd_all (by rfl) T.n_all Eb.bb_all (xa_cons ((xl_lc (own := [("kind", 3), ("arg", 4)]) rfl sc_are_given.nd (xi_zipS (by rfl) T.n_zip (xe_var (pv 2)) (xe_var (pv 1))) (blkOk_by (N := ["deed", "given", "kinds", "kind", "arg"]) (sc := defScope s_are_given) (by decide +kernel)) (fun _ _ _ _ _ => (xg_tup rfl (xgs_cons (pg_name (i := 3) sc_are_given.nd rfl (.inl rfl)) (xgs_cons (pg_name (i := 4) sc_are_given.nd rfl (.inl rfl)) xgs_nil)))) (fun _ _ _ _ _ => xts_nil) (fun _ _ _ _ _ => (xe_if (xt_cmp (ho_eq hr.units) snd_eq (xe_var (pv 3)) xe_str (nomark _)) (xe_call (ok_is_number T ZX) (hr.mono (by decide)) (by rfl) T.g_is_number T.f_is_number.kp T.b_is_number (xa_cons (xe_var (pv 4)) xa_nil)) (xe_call (ok_is_name T ZX) (hr.mono (by decide)) (by rfl) T.g_is_name T.f_is_name.kp T.b_is_name (xa_cons (xe_var (pv 4)) xa_nil)))))).xe xa_nil))))))))
theorem ok_is_deed (T : Txt P w K mg F D C) (ZX : Exs P K mg C I) : FnOk P w K mg base CX0 1 (F 25) (D 25) ["value"] (spF0 (tbl K C) wp_is_deed) := by
  unfold wp_is_deed
  exact fnF0 T.f_is_deed sc_is_deed rfl rfl rfl (fun cdv A outer s H E Z M H0 dl hr => (xss_one (xs_ret (xe_andT (xe_isT (n := .str) (cs := [9, 10, 11, 12, 14, 15, 18, 19]) (is_str T) (by rfl) T.n_isinstance (xe_var (pv 0)) (pe_bltn (v := .ty "str") (by rfl) T.n_str Eb.bb_str rfl)) (xe_one (xe_orT (xe_cmp (ho_eq hr.units) snd_eq (xe_var (pv 0)) xe_str (nomark _)) (xe_orT (xe_gin (by rfl) T.gd_SIGNS (xe_var (pv 0))) (xe_one (xe_gin (by rfl) T.gd_PLAIN (xe_var (pv 0)))))))))))
theorem ok_put_line (T : Txt P w K mg F D C) (ZX : Exs P K mg C I) : FnOk P w K mg base CX0 1 (F 32) (D 32) ["name", "deed", "given"] (spF0 (tbl K C) wp_put_line) := by
  unfold wp_put_line
  exact fnF0 T.f_put_line sc_put_line rfl rfl rfl (fun cdv A outer s H E Z M H0 dl hr => (xss_cons (xs_lcV (own := [("arg", 5)]) (i := 3) rfl sc_put_line.nd rfl rfl (sw_true rfl rfl rfl (by decide +kernel)) (xi_tup (xe_var (pv 2))) (blkOk_by (N := ["name", "deed", "given", "words", "told", "arg"]) (sc := defScope s_put_line) (by decide +kernel)) (fun _ _ _ _ _ => (xg_name (pg_name (i := 5) sc_put_line.nd rfl (.inl rfl)))) (fun _ _ _ _ _ => xts_nil) (fun _ _ _ _ _ => (xe_callTy (fun _ => callE call_str_int SkE.call_str_str) snd_str (by rfl) T.n_str Eb.bb_str (xa_cons (xe_var (pv 5)) xa_nil)))) (xss_cons (xs_set (i := 4) sc_put_line.nd rfl (.inl rfl) (xe_if (xt_gin (by rfl) T.gd_SIGNS (xe_var (pv 1))) (xe_add (xe_add (xe_slice (xe_var (pv 3)) xo_none (xo_some xe_int)) ((xl_lst (xa_cons (xe_var (pv 1)) xa_nil))).xe) (xe_slice (xe_var (pv 3)) (xo_some xe_int) xo_none)) (xe_add ((xl_lst (xa_cons (xe_var (pv 1)) xa_nil))).xe (xe_var (pv 3))))) (xss_one (xs_ret (xe_join xe_str (xe_add ((xl_lst (xa_cons (xe_var (pv 0)) (xa_cons xe_str xa_nil)))).xe (xe_var (pv 4)))))))))

end
end K15

namespace K15
open PySem PySem.Spec PyProof.Rows L2 Eb
section
variable {P : Program} {w : World} {K : PySem.W.Frag} {mg : Str → Option Value} {base : Heap} {F : Nat → Addr} {D : Nat → FuncData} {C I : Nat → Addr}
theorem okr_Put_init (T : Txt P w K mg F D C) (ZX : Exs P K mg C I) : FnR P w K mg base CX0 4 (F 33) (spI0 (tbl K C) 9 wp_Put_init) := by
  unfold wp_Put_init
  exact fnISupV0 T.sp_Put_init sb_Put_init bs_Put_init (ok_Row_init_Put T ZX) T.b_Row_init rfl rfl rfl rfl (fun cda cc A outer s H E Z M H0 dl hr => ⟨(xss_cons (xs_if (xt_not (xt_truth (xe_call (ok_is_name T ZX) (hr.mono (by decide)) (by rfl) T.g_is_name T.f_is_name.kp T.b_is_name (xa_cons (xe_var (pv 1)) xa_nil)) (by intro _; rfl))) (xss_one xs_never) xss_nil) (xss_cons (xs_if (xt_not (xt_truth (xe_call (ok_is_deed T ZX) (hr.mono (by decide)) (by rfl) T.g_is_deed T.f_is_deed.kp T.b_is_deed (xa_cons (xe_var (pv 2)) xa_nil)) (by intro _; rfl))) (xss_one xs_never) xss_nil) (xss_one (xs_if (xt_not (xt_truth (xe_call (ok_are_given T ZX) (hr.mono (by decide)) (by rfl) T.g_are_given T.f_are_given.kp T.b_are_given (xa_cons (xe_var (pv 2)) (xa_cons (xe_var (pv 3)) xa_nil))) (by intro _; rfl))) (xss_one xs_never) xss_nil)))), (xa_cons ((xl_lst (xa_cons (xe_call (ok_put_line T ZX) (hr.mono (by decide)) (by rfl) T.g_put_line T.f_put_line.kp T.b_put_line (xa_cons (xe_var (pv 1)) (xa_cons (xe_var (pv 2)) (xa_cons (xe_var (pv 3)) xa_nil)))) xa_nil))).xe (xa_cons ((xl_lst xa_nil)).xe (xa_cons (xe_add ((xl_lst (xa_cons (xe_var (pv 1)) xa_nil))).xe ((xl_lc (own := [("arg", 4)]) rfl sc_Put_init.nd (xi_tup (xe_var (pv 3))) (blkOk_by (N := ["self", "name", "deed", "given", "arg"]) (sc := defScope s_Put_init) (by decide +kernel)) (fun _ _ _ _ _ => (xg_name (pg_name (i := 4) sc_Put_init.nd rfl (.inl rfl)))) (fun _ _ _ _ _ => (xts_one (xt_truth (xe_isT (n := .str) (cs := [9, 10, 11, 12, 14, 15, 18, 19]) (is_str T) (by rfl) T.n_isinstance (xe_var (pv 4)) (pe_bltn (v := .ty "str") (by rfl) T.n_str Eb.bb_str rfl)) (by intro _; rfl)))) (fun _ _ _ _ _ => (xe_var (pv 4))))).xe) xa_nil))), (xss_cons (xs_self (po_Put_name T) (pv 0) (xe_var (pv 1))) (xss_cons (xs_self (po_Put_deed T) (pv 0) (xe_var (pv 2))) (xss_one (xs_self (po_Put_given T) (pv 0) (xe_var (pv 3))))))⟩)
theorem ok_Row_init_Stop (T : Txt P w K mg F D C) (ZX : Exs P K mg C I) : FnOk P w K mg base CX0 1 (F 29) (D 29) ["self", "lines", "inner", "used"] (spIS (tbl K C) 10 wp_Row_init_Stop) := by
  unfold wp_Row_init_Stop
  exact fnIS T.f_Row_init sc_Row_init rfl rfl rfl (fun cdv A outer s H E Z M H0 dl hr => (xss_cons (xs_self (po_Stop_lines T) (pv 0) (xe_callTy hc_tuple snd_tuple (by rfl) T.n_tuple Eb.bb_tuple (xa_cons (xe_var (pv 1)) xa_nil))) (xss_cons (xs_self (po_Stop_inner T) (pv 0) (xe_callTy hc_tuple snd_tuple (by rfl) T.n_tuple Eb.bb_tuple (xa_cons (xe_var (pv 2)) xa_nil))) (xss_one (xs_self (po_Stop_used T) (pv 0) (xe_callTy hc_tuple snd_tuple (by rfl) T.n_tuple Eb.bb_tuple (xa_cons (xe_var (pv 3)) xa_nil)))))))
theorem okr_Stop_init (T : Txt P w K mg F D C) (ZX : Exs P K mg C I) : FnR P w K mg base CX0 2 (F 34) (spI0 (tbl K C) 10 wp_Stop_init) := by
  unfold wp_Stop_init
  exact fnISup0 T.sp_Stop_init sb_Stop_init ba_Stop_init (ok_Row_init_Stop T ZX) T.b_Row_init rfl rfl rfl rfl (fun cda cc A outer s H E Z M H0 dl hr => ⟨xss_nil, (xa_cons ((xl_lst (xa_cons xe_str xa_nil))).xe (xa_cons ((xl_lst xa_nil)).xe (xa_cons ((xl_lst xa_nil)).xe xa_nil))), xss_nil⟩)
theorem ok_Row_init_Times (T : Txt P w K mg F D C) (ZX : Exs P K mg C I) : FnOk P w K mg base CX0 2 (F 29) (D 29) ["self", "lines", "inner", "used"] (spIS (tbl K C) 12 wp_Row_init_Times) := by
  unfold wp_Row_init_Times
  exact fnIS T.f_Row_init sc_Row_init rfl rfl rfl (fun cdv A outer s H E Z M H0 dl hr => (xss_cons (xs_self (po_Times_lines T) (pv 0) (xe_callTy hc_tuple snd_tuple (by rfl) T.n_tuple Eb.bb_tuple (xa_cons (xe_var (pv 1)) xa_nil))) (xss_cons (xs_self (po_Times_inner T) (pv 0) (xe_callTy hc_tuple snd_tuple (by rfl) T.n_tuple Eb.bb_tuple (xa_cons (xe_var (pv 2)) xa_nil))) (xss_one (xs_self (po_Times_used T) (pv 0) (xe_callTy hc_tuple snd_tuple (by rfl) T.n_tuple Eb.bb_tuple (xa_cons (xe_var (pv 3)) xa_nil)))))))
theorem okr_Times_init (T : Txt P w K mg F D C) (ZX : Exs P K mg C I) : FnR P w K mg base CX0 3 (F 36) (spI0 (tbl K C) 12 wp_Times_init) := by
  unfold wp_Times_init
  exact fnISup0 T.sp_Times_init sb_Times_init ba_Times_init (ok_Row_init_Times T ZX) T.b_Row_init rfl rfl rfl rfl (fun cda cc A outer s H E Z M H0 dl hr => ⟨(xss_cons (xs_if (xt_not (xt_truth (xe_call (ok_is_number T ZX) (hr.mono (by decide)) (by rfl) T.g_is_number T.f_is_number.kp T.b_is_number (xa_cons (xe_var (pv 1)) xa_nil)) (by intro _; rfl))) (xss_one xs_never) xss_nil) (xss_cons (xs_self (po_Times_count T) (pv 0) (xe_var (pv 1))) (xss_one (xs_self (po_Times_rows T) (pv 0) (xe_call (calm (ok_rows_of T ZX)) (hr.mono (by decide)) (by rfl) T.g_rows_of T.f_rows_of.kp T.b_rows_of (xa_cons (xe_var (pv 2)) xa_nil)))))), (xa_cons (xe_add (xe_add ((xl_lst (xa_cons (xe_joined (.cons xe_str (.cons (xe_fmt (xe_var (pv 1))) .nil))) xa_nil))).xe (xe_call (ok_lines_of T ZX) (hr.mono (by decide)) (by rfl) T.g_lines_of T.f_lines_of.kp T.b_lines_of (xa_cons (xe_selfF (po_Times_rows T) (pv 0)) xa_nil))) ((xl_lst (xa_cons xe_str xa_nil))).xe) (xa_cons (xe_selfF (po_Times_rows T) (pv 0)) (xa_cons ((xl_lst xa_nil)).xe xa_nil))), xss_nil⟩)
theorem ok__law_row_of (T : Txt P w K mg F D C) (ZX : Exs P K mg C I) : ∀ n, FnOk P w K mg base CX0 (13 + n) (F 89) (D 89) ["_law_row"] (spF0 (tbl K C) (wp__law_row_of n)) := by
  intro n
  induction n with
  | zero =>
    rw [wpz__law_row_of]
    exact fnF0 (k := 12) T.f__law_row_of sc__law_row_of rfl rfl rfl (fun cdv A outer s H E Z M H0 dl hr => xss_never _ (List.cons_ne_nil _ _))
  | succ n ih =>
    rw [wps__law_row_of]
    exact fnF0 (k := 13 + n) T.f__law_row_of sc__law_row_of rfl rfl rfl (fun cdv A outer s H E Z M H0 dl hr => (xss_cons (xs_if (xt_cmp (ho_eq hr.units) snd_eq (xe_ix (xe_var (pv 0)) xe_int) xe_str (nomark _)) (xss_one (xs_ret (xe_makeR0 T.mk_Stop (okr_Stop_init T ZX) (hr.mono (by omega)) (by rfl) T.gc_Stop))) xss_nil) (xss_cons (xs_if (xt_cmp (ho_eq hr.units) snd_eq (xe_ix (xe_var (pv 0)) xe_int) xe_str (nomark _)) (xss_one (xs_ret (xe_makeR T.mk_Times (okr_Times_init T ZX) (hr.mono (by omega)) (by rfl) T.gc_Times (xa_cons (xe_ix (xe_var (pv 0)) xe_int) (xa_cons ((xl_lc (own := [("_law_one", 3)]) rfl sc__law_row_of.nd (xi_tup (xe_ix (xe_var (pv 0)) xe_int)) (blkOk_by (N := ["_law_row", "_law_others", "_law_args", "_law_one"]) (sc := defScope s__law_row_of) (by decide +kernel)) (fun _ _ _ _ _ => (xg_name (pg_name (i := 3) sc__law_row_of.nd rfl (.inl rfl)))) (fun _ _ _ _ _ => xts_nil) (fun _ _ _ _ _ => (xe_call ih (hr.mono (by omega)) (by rfl) T.g__law_row_of T.f__law_row_of.kp T.b__law_row_of (xa_cons (xe_var (pv 3)) xa_nil))))).xe xa_nil))))) xss_nil) (xss_cons (xs_if (xt_cmp (ho_eq hr.units) snd_eq (xe_ix (xe_var (pv 0)) xe_int) xe_str (nomark _)) (xss_cons (xs_set (i := 1) sc__law_row_of.nd rfl (.inl rfl) (xe_callTy hc_tuple snd_tuple (by rfl) T.n_tuple Eb.bb_tuple (xa_cons ((xl_lc (own := [("_law_one", 3)]) rfl sc__law_row_of.nd (xi_tup (xe_ix (xe_var (pv 0)) xe_int)) (blkOk_by (N := ["_law_row", "_law_others", "_law_args", "_law_one"]) (sc := defScope s__law_row_of) (by decide +kernel)) (fun _ _ _ _ _ => (xg_name (pg_name (i := 3) sc__law_row_of.nd rfl (.inl rfl)))) (fun _ _ _ _ _ => xts_nil) (fun _ _ _ _ _ => (xe_call ih (hr.mono (by omega)) (by rfl) T.g__law_row_of T.f__law_row_of.kp T.b__law_row_of (xa_cons (xe_var (pv 3)) xa_nil))))).xe xa_nil))) (xss_one (xs_ret (xe_makeR T.mk_If (okr_If_init T ZX) (hr.mono (by omega)) (by rfl) T.gc_If (xa_cons (xe_call (ok__law_ask_of T ZX 9) (hr.mono (by omega)) (by rfl) T.g__law_ask_of T.f__law_ask_of.kp T.b__law_ask_of (xa_cons (xe_ix (xe_var (pv 0)) xe_int) xa_nil)) (xa_cons ((xl_lc (own := [("_law_one", 3)]) rfl sc__law_row_of.nd (xi_tup (xe_ix (xe_var (pv 0)) xe_int)) (blkOk_by (N := ["_law_row", "_law_others", "_law_args", "_law_one"]) (sc := defScope s__law_row_of) (by decide +kernel)) (fun _ _ _ _ _ => (xg_name (pg_name (i := 3) sc__law_row_of.nd rfl (.inl rfl)))) (fun _ _ _ _ _ => xts_nil) (fun _ _ _ _ _ => (xe_call ih (hr.mono (by omega)) (by rfl) T.g__law_row_of T.f__law_row_of.kp T.b__law_row_of (xa_cons (xe_var (pv 3)) xa_nil))))).xe (xa_cons (xe_var (pv 1)) xa_nil))))))) xss_nil) (xss_cons (xs_set (i := 2) sc__law_row_of.nd rfl (.inl rfl) (xe_ix (xe_var (pv 0)) xe_int)) (xss_cons (xs_if (xt_cmp (ho_eq hr.units) snd_eq (xe_callB hc_len snd_len (by rfl) T.n_len Eb.bb_len (xa_cons (xe_var (pv 2)) xa_nil)) xe_int (nomark _)) (xss_one (xs_ret (xe_makeR T.mk_Put (okr_Put_init T ZX) (hr.mono (by omega)) (by rfl) T.gc_Put (xa_cons (xe_ix (xe_var (pv 0)) xe_int) (xa_cons (xe_ix (xe_var (pv 0)) xe_int) xa_nil))))) xss_nil) (xss_cons (xs_if (xt_cmp (ho_eq hr.units) snd_eq (xe_callB hc_len snd_len (by rfl) T.n_len Eb.bb_len (xa_cons (xe_var (pv 2)) xa_nil)) xe_int (nomark _)) (xss_one (xs_ret (xe_makeR T.mk_Put (okr_Put_init T ZX) (hr.mono (by omega)) (by rfl) T.gc_Put (xa_cons (xe_ix (xe_var (pv 0)) xe_int) (xa_cons (xe_ix (xe_var (pv 0)) xe_int) (xa_cons (xe_ix (xe_var (pv 2)) xe_int) xa_nil)))))) xss_nil) (xss_cons (xs_if (xt_cmp (ho_eq hr.units) snd_eq (xe_callB hc_len snd_len (by rfl) T.n_len Eb.bb_len (xa_cons (xe_var (pv 2)) xa_nil)) xe_int (nomark _)) (xss_one (xs_ret (xe_makeR T.mk_Put (okr_Put_init T ZX) (hr.mono (by omega)) (by rfl) T.gc_Put (xa_cons (xe_ix (xe_var (pv 0)) xe_int) (xa_cons (xe_ix (xe_var (pv 0)) xe_int) (xa_cons (xe_ix (xe_var (pv 2)) xe_int) (xa_cons (xe_ix (xe_var (pv 2)) xe_int) xa_nil))))))) xss_nil) (xss_cons (xs_if (xt_cmp (ho_eq hr.units) snd_eq (xe_callB hc_len snd_len (by rfl) T.n_len Eb.bb_len (xa_cons (xe_var (pv 2)) xa_nil)) xe_int (nomark _)) (xss_one (xs_ret (xe_makeR T.mk_Put (okr_Put_init T ZX) (hr.mono (by omega)) (by rfl) T.gc_Put (xa_cons (xe_ix (xe_var (pv 0)) xe_int) (xa_cons (xe_ix (xe_var (pv 0)) xe_int) (xa_cons (xe_ix (xe_var (pv 2)) xe_int) (xa_cons (xe_ix (xe_var (pv 2)) xe_int) (xa_cons (xe_ix (xe_var (pv 2)) xe_int) xa_nil)))))))) xss_nil) (xss_cons (xs_if (xt_cmp (ho_eq hr.units) snd_eq (xe_callB hc_len snd_len (by rfl) T.n_len Eb.bb_len (xa_cons (xe_var (pv 2)) xa_nil)) xe_int (nomark _)) (xss_one (xs_ret (xe_makeR T.mk_Put (okr_Put_init T ZX) (hr.mono (by omega)) (by rfl) T.gc_Put (xa_cons (xe_ix (xe_var (pv 0)) xe_int) (xa_cons (xe_ix (xe_var (pv 0)) xe_int) (xa_cons (xe_ix (xe_var (pv 2)) xe_int) (xa_cons (xe_ix (xe_var (pv 2)) xe_int) (xa_cons (xe_ix (xe_var (pv 2)) xe_int) (xa_cons (xe_ix (xe_var (pv 2)) xe_int) xa_nil))))))))) xss_nil) (xss_cons (xs_if (xt_cmp (ho_eq hr.units) snd_eq (xe_callB hc_len snd_len (by rfl) T.n_len Eb.bb_len (xa_cons (xe_var (pv 2)) xa_nil)) xe_int (nomark _)) (xss_one (xs_ret (xe_makeR T.mk_Put (okr_Put_init T ZX) (hr.mono (by omega)) (by rfl) T.gc_Put (xa_cons (xe_ix (xe_var (pv 0)) xe_int) (xa_cons (xe_ix (xe_var (pv 0)) xe_int) (xa_cons (xe_ix (xe_var (pv 2)) xe_int) (xa_cons (xe_ix (xe_var (pv 2)) xe_int) (xa_cons (xe_ix (xe_var (pv 2)) xe_int) (xa_cons (xe_ix (xe_var (pv 2)) xe_int) (xa_cons (xe_ix (xe_var (pv 2)) xe_int) xa_nil)))))))))) xss_nil) (xss_one (xs_ret (xe_makeR T.mk_Put (okr_Put_init T ZX) (hr.mono (by omega)) (by rfl) T.gc_Put (xa_cons (xe_ix (xe_var (pv 0)) xe_int) (xa_cons (xe_ix (xe_var (pv 0)) xe_int) (xa_cons (xe_ix (xe_var (pv 2)) xe_int) (xa_cons (xe_ix (xe_var (pv 2)) xe_int) (xa_cons (xe_ix (xe_var (pv 2)) xe_int) (xa_cons (xe_ix (xe_var (pv 2)) xe_int) (xa_cons (xe_ix (xe_var (pv 2)) xe_int) (xa_cons (xe_ix (xe_var (pv 2)) xe_int) xa_nil))))))))))))))))))))))
theorem ok_Program_str (T : Txt P w K mg F D C) (ZX : Exs P K mg C I) : FnOk P w K mg base CX0 1 (F 66) (D 66) ["self"] (spF0 (tbl K C) wp_Program_str) := by
  unfold wp_Program_str
  exact fnF0 T.f_Program_str sc_Program_str rfl rfl rfl (fun cdv A outer s H E Z M H0 dl hr => (xss_one (xs_ret (xe_join xe_str (xe_fld (fo_Program_lines T) (xe_var (pv 0)))))))
theorem ok_Sheet_len (T : Txt P w K mg F D C) (ZX : Exs P K mg C I) : FnOk P w K mg base CX0 1 (F 74) (D 74) ["self"] (spF0 (tbl K C) wp_Sheet_len) := by
  unfold wp_Sheet_len
  exact fnF0 T.f_Sheet_len sc_Sheet_len rfl rfl rfl (fun cdv A outer s H E Z M H0 dl hr => (xss_one (xs_ret (xe_callB hc_len snd_len (by rfl) T.n_len Eb.bb_len (xa_cons (xe_fld (fo_Sheet_rows T) (xe_var (pv 0))) xa_nil)))))
theorem ok__law_alike (T : Txt P w K mg F D C) (ZX : Exs P K mg C I) : FnOk P w K mg base CX0 31 (F 92) (D 92) ["_law_sheet", "_law_models"] (spF0 (tbl K C) wp__law_alike) := by
  unfold wp__law_alike
  exact fnF0 T.f__law_alike sc__law_alike rfl rfl rfl (fun cdv A outer s H E Z M H0 dl hr => (xss_cons (xs_if (XW.xt (xw_or (xt_cmp (ho_ne hr.units) snd_ne (xe_callB (fun _ => call_lenOwn T.me_Sheet_len.at_ T.me_Sheet_len.fn (raw0 (ok_Sheet_len T ZX) T.b_Sheet_len) (hr.mono (by decide)) (E := E0) pass0) snd_lenOD (by rfl) T.n_len Eb.bb_len (xa_cons (xe_var (pv 0)) xa_nil)) (xe_callB hc_len snd_len (by rfl) T.n_len Eb.bb_len (xa_cons (xe_var (pv 1)) xa_nil)) (nomark _)) (xw_or1 (xt_cmp (ho_ne hr.units) snd_ne (xe_callTy (fun _ => call_strOwn T.me_Program_str.at_ T.me_Program_str.fn (raw0 (ok_Program_str T ZX) T.b_Program_str) (hr.mono (by decide)) hr.units (E := E0) pass0) snd_strO (by rfl) T.n_str Eb.bb_str (xa_cons (xe_meth0 (c := 19) (xe_var (pv 0)) T.cl_Sheet T.me_Sheet_made (nm_Sheet_made K C) (ok_Sheet_made T ZX) (hr.mono (by decide)) T.b_Sheet_made) xa_nil)) (xe_join xe_str (xe_call (ok__law_all_lines T ZX 20) (hr.mono (by decide)) (by rfl) T.g__law_all_lines T.f__law_all_lines.kp T.b__law_all_lines (xa_cons (xe_var (pv 1)) xa_nil))) (nomark _))))) (xss_one (xs_ret xe_bl)) xss_nil) (xss_one (xs_ret (xe_cmp (ho_eqN hr.units) snd_eqN ((xl_lc (own := [("_law_k", 2), ("_law_one", 3)]) rfl sc__law_alike.nd (xi_enumL (by rfl) T.n_enumerate (xe_var (pv 1))) (blkOk_by (N := ["_law_sheet", "_law_models", "_law_k", "_law_one"]) (sc := defScope s__law_alike) (by decide +kernel)) (fun _ _ _ _ _ => (xg_tup rfl (xgs_cons (pg_name (i := 2) sc__law_alike.nd rfl (.inl rfl)) (xgs_cons (pg_name (i := 3) sc__law_alike.nd rfl (.inl rfl)) xgs_nil)))) (fun _ _ _ _ _ => (xts_one (xt_not (xt_cmp (ho_eqM (he_Row T) T.mi_Put_eq.fn (raw0 (ok_Row_eq T ZX) T.b_Row_eq) (hr.mono (by decide)) pass0) (snd_eqM (E := E0) (qa_Row T)) (xe_ixP (c := 19) (xe_var (pv 0)) (xe_var (pv 2)) T.me_Sheet_getitem.at_ T.me_Sheet_getitem.fn (fnIn_of T.f_Sheet_getitem) (raw0 (calm (ok_Sheet_getitem T ZX)) T.b_Sheet_getitem) (hr.mono (by decide))) (xe_call (ok__law_row_of T ZX 9) (hr.mono (by decide)) (by rfl) T.g__law_row_of T.f__law_row_of.kp T.b__law_row_of (xa_cons (xe_var (pv 3)) xa_nil)) (nomark _))))) (fun _ _ _ _ _ => xe_int))).xe ((xl_lst xa_nil)).xe (nomark _))))))
theorem okr_Sheet_init (T : Txt P w K mg F D C) (ZX : Exs P K mg C I) : FnR P w K mg base (L2.CX P w) 2 (F 67) (spI (tbl K C) 19 wp_Sheet_init) := by
  unfold wp_Sheet_init
  exact fnIXd T.fd_Sheet_init sc_Sheet_init ba_Sheet_init bd_Sheet_init rfl rfl rfl rfl (fun cdv A outer s H E Z M H0 dl hr => (xss_one (xs_self (po_Sheet_rows T) (pv 0) (xe_callX (takes_of rfl rfl rfl rfl) (ok_rows_of T ZX) (hr.mono (by decide)) (by rfl) T.g_rows_of T.f_rows_of.kp T.b_rows_of (xa_cons (xe_var (pv 1)) xa_nil)))))
theorem okL_Sheet_init (T : Txt P w K mg F D C) (ZX : Exs P K mg C I) : FnR P w K mg base CX0 2 (F 67) (spIL (tbl K C) 19 wpL_Sheet_init) := by
  unfold wpL_Sheet_init
  exact fnI0L T.fd_Sheet_init sc_Sheet_init ba_Sheet_init rfl rfl rfl rfl rfl (fun cdv A outer s H E Z M H0 dl hr => (xs_self (po_Sheet_rows T) (pv 0) (xe_call (calm (ok_rows_of T ZX)) (hr.mono (by decide)) (by rfl) T.g_rows_of T.f_rows_of.kp T.b_rows_of (xa_cons (xe_var (pv 1)) xa_nil)))) (fun cdv A outer s H E Z M H0 dl hr => xss_nil)
theorem ok__law_begun (T : Txt P w K mg F D C) (ZX : Exs P K mg C I) : FnOk P w K mg base CX0 4 (F 91) (D 91) ["_law_thing"] (spF0 (tbl K C) wp__law_begun) := by
  unfold wp__law_begun
  exact fnF0 T.f__law_begun sc__law_begun rfl rfl rfl (fun cdv A outer s H E Z M H0 dl hr => (xss_cons (xs_set (i := 1) sc__law_begun.nd rfl (.inl rfl) xe_non) (xss_cons (xs_tryAs (i := 2) rfl rfl sc__law_begun.nd rfl rfl ⟨rfl, by decide, Or.inl ZX.g_InvalidRow⟩ takes0 (ex_InvalidRow ZX) (fun W pn xe tk ps => (xss_one (xs_expr (xe_makeX tk T.mk_Sheet (okr_Sheet_init T ZX) (hr.mono (by decide)) (by rfl) T.gc_Sheet (xa_cons (xe_var (pv 0)) xa_nil))))) (fun a oe cls od pn hz hf => (xss_one (xs_set (i := 1) sc__law_begun.nd rfl (.inl rfl) (xe_erf ⟨ZX.i_InvalidRow.hg, ZX.i_InvalidRow.hk, ZX.i_InvalidRow.hs, ZX.i_InvalidRow.hd⟩ ZX.x_InvalidRow.noN rfl hz hf (pv 2)))))) (xss_one (xs_ret (xe_var (pv 1)))))))
theorem ok__law_count (T : Txt P w K mg F D C) (ZX : Exs P K mg C I) : ∀ n, FnOk P w K mg base CX0 (1 + n) (F 83) (D 83) ["_law_row"] (spF0 (tbl K C) (wp__law_count n)) := by
  intro n
  induction n with
  | zero =>
    rw [wpz__law_count]
    exact fnF0 (k := 0) T.f__law_count sc__law_count rfl rfl rfl (fun cdv A outer s H E Z M H0 dl hr => xss_never _ (List.cons_ne_nil _ _))
  | succ n ih =>
    rw [wps__law_count]
    exact fnF0 (k := 1 + n) T.f__law_count sc__law_count rfl rfl rfl (fun cdv A outer s H E Z M H0 dl hr => (xss_cons (xs_if (xt_cmp (ho_eq hr.units) snd_eq (xe_ix (xe_var (pv 0)) xe_int) xe_str (nomark _)) (xss_one (xs_ret (xe_add xe_int (xe_callB (hc_sum rfl) snd_sum (by rfl) T.n_sum Eb.bb_sum (xa_cons ((xl_lc (own := [("_law_one", 1)]) rfl sc__law_count.nd (xi_tup (xe_add (xe_ix (xe_var (pv 0)) xe_int) (xe_ix (xe_var (pv 0)) xe_int))) (blkOk_by (N := ["_law_row", "_law_one"]) (sc := defScope s__law_count) (by decide +kernel)) (fun _ _ _ _ _ => (xg_name (pg_name (i := 1) sc__law_count.nd rfl (.inl rfl)))) (fun _ _ _ _ _ => xts_nil) (fun _ _ _ _ _ => (xe_call ih (hr.mono (by omega)) (by rfl) T.g__law_count T.f__law_count.kp T.b__law_count (xa_cons (xe_var (pv 1)) xa_nil))))).xe xa_nil))))) xss_nil) (xss_one (xs_ret (xe_if (xt_cmp (ho_eq hr.units) snd_eq (xe_ix (xe_var (pv 0)) xe_int) xe_str (nomark _)) (xe_add xe_int (xe_callB (hc_sum rfl) snd_sum (by rfl) T.n_sum Eb.bb_sum (xa_cons ((xl_lc (own := [("_law_one", 1)]) rfl sc__law_count.nd (xi_tup (xe_ix (xe_var (pv 0)) xe_int)) (blkOk_by (N := ["_law_row", "_law_one"]) (sc := defScope s__law_count) (by decide +kernel)) (fun _ _ _ _ _ => (xg_name (pg_name (i := 1) sc__law_count.nd rfl (.inl rfl)))) (fun _ _ _ _ _ => xts_nil) (fun _ _ _ _ _ => (xe_call ih (hr.mono (by omega)) (by rfl) T.g__law_count T.f__law_count.kp T.b__law_count (xa_cons (xe_var (pv 1)) xa_nil))))).xe xa_nil))) xe_int)))))
theorem ok_Sheet_drop (T : Txt P w K mg F D C) (ZX : Exs P K mg C I) : FnOk P w K mg base (L2.CX P w) 2 (F 69) (D 69) ["self", "at"] (spM (tbl K C) 19 wp_Sheet_drop) := by
  unfold wp_Sheet_drop
  exact fnM T.f_Sheet_drop sc_Sheet_drop rfl rfl (by decide) rfl (fun cdv A outer s H E Z M H0 dl hr => (xss_cons (xs_expr (xe_pkV (i := 0) (c := 19) (n := 1) (hf_Sheet K C) rfl (fun Z M H0 => (xe_methX (c := 19) (takes_of rfl rfl rfl rfl) (xe_var (pv 0)) T.cl_Sheet T.me_Sheet_need_place (nm_Sheet_need_place K C) (ok_Sheet_need_place T ZX) (hr.mono (by decide)) T.b_Sheet_need_place (xa_cons (xe_var (pv 1)) xa_nil))))) (xss_one (xs_muSet (i := 0) (po_Sheet_rows T) (show (1 : Nat) < 1000 by decide) (pv 0) (xe_pkV (i := 0) (c := 19) (n := 1) (hf_Sheet K C) rfl (fun Z M H0 => (xe_add (xe_slice (xe_fld (fo_Sheet_rows T) (xe_var (pv 0))) xo_none (xo_some (xe_var (pv 1)))) (xe_slice (xe_fld (fo_Sheet_rows T) (xe_var (pv 0))) (xo_some (xe_add (xe_var (pv 1)) xe_int)) xo_none))))))))
theorem ok_Row_str (T : Txt P w K mg F D C) (ZX : Exs P K mg C I) : FnOk P w K mg base CX0 1 (F 31) (D 31) ["self"] (spF0 (tbl K C) wp_Row_str) := by
  unfold wp_Row_str
  exact fnF0 T.f_Row_str sc_Row_str rfl rfl rfl (fun cdv A outer s H E Z M H0 dl hr => (xss_one (xs_ret (xe_join xe_str (xe_fld (fo_Row_lines T) (xe_var (pv 0)))))))
theorem ok_need_one (T : Txt P w K mg F D C) (ZX : Exs P K mg C I) : FnOk P w K mg base (L2.CX P w) 1 (F 75) (D 75) ["row"] (spF (tbl K C) wp_need_one) := by
  unfold wp_need_one
  exact fnF T.f_need_one sc_need_one rfl rfl rfl (fun cdv A outer s H E Z M H0 dl hr => (xss_one (xs_if (xt_not (xt_truth (xe_isC (no_Row T) (sub := [(9, true), (10, true), (11, true), (12, true), (14, false), (15, false), (18, false), (19, false)]) (su_Row T) (by rfl) T.n_isinstance (xe_var (pv 0)) (pe_glob (v := .ref (C 8)) (by rfl) T.gc_Row rfl)) (by intro _; rfl))) (xss_one (xs_raise rfl ZX.x_InvalidRow rfl hr (takes_of rfl rfl rfl rfl) (xa_cons xe_str xa_nil) (by rfl))) xss_nil)))
theorem ok_Sheet_iadd (T : Txt P w K mg F D C) (ZX : Exs P K mg C I) : FnOk P w K mg base (L2.CX P w) 2 (F 73) (D 73) ["self", "row"] (spMS (tbl K C) 19 wp_Sheet_iadd) := by
  unfold wp_Sheet_iadd
  exact fnMS T.f_Sheet_iadd sc_Sheet_iadd rfl rfl (by decide) rfl rfl (fun cdv A outer s H E => pv 0) (fun cdv A outer s H E Z M H0 dl hr => (xs_expr (xe_callX (takes_of rfl rfl rfl rfl) (ok_need_one T ZX) (hr.mono (by decide)) (by rfl) T.g_need_one T.f_need_one.kp T.b_need_one (xa_cons (xe_var (pv 1)) xa_nil)))) (fun cdv A outer s H E Z M H0 dl hr => (xs_muSet (i := 0) (po_Sheet_rows T) (show (1 : Nat) < 1000 by decide) (pv 0) (xe_pkV (i := 0) (c := 19) (n := 1) (hf_Sheet K C) rfl (fun Z M H0 => (xe_add (xe_fld (fo_Sheet_rows T) (xe_var (pv 0))) (xe_tup (xa_cons (xe_var (pv 1)) xa_nil)))))))
theorem ok_Sheet_setitem (T : Txt P w K mg F D C) (ZX : Exs P K mg C I) : FnOk P w K mg base (L2.CX P w) 2 (F 72) (D 72) ["self", "at", "row"] (spM (tbl K C) 19 wp_Sheet_setitem) := by
  unfold wp_Sheet_setitem
  exact fnM T.f_Sheet_setitem sc_Sheet_setitem rfl rfl (by decide) rfl (fun cdv A outer s H E Z M H0 dl hr => (xss_cons (xs_expr (xe_pkV (i := 0) (c := 19) (n := 1) (hf_Sheet K C) rfl (fun Z M H0 => (xe_methX (c := 19) (takes_of rfl rfl rfl rfl) (xe_var (pv 0)) T.cl_Sheet T.me_Sheet_need_place (nm_Sheet_need_place K C) (ok_Sheet_need_place T ZX) (hr.mono (by decide)) T.b_Sheet_need_place (xa_cons (xe_var (pv 1)) xa_nil))))) (xss_cons (xs_expr (xe_callX (takes_of rfl rfl rfl rfl) (ok_need_one T ZX) (hr.mono (by decide)) (by rfl) T.g_need_one T.f_need_one.kp T.b_need_one (xa_cons (xe_var (pv 2)) xa_nil))) (xss_one (xs_muSet (i := 0) (po_Sheet_rows T) (show (1 : Nat) < 1000 by decide) (pv 0) (xe_pkV (i := 0) (c := 19) (n := 1) (hf_Sheet K C) rfl (fun Z M H0 => (xe_add (xe_add (xe_slice (xe_fld (fo_Sheet_rows T) (xe_var (pv 0))) xo_none (xo_some (xe_var (pv 1)))) (xe_tup (xa_cons (xe_var (pv 2)) xa_nil))) (xe_slice (xe_fld (fo_Sheet_rows T) (xe_var (pv 0))) (xo_some (xe_add (xe_var (pv 1)) xe_int)) xo_none)))))))))
theorem ok__law_deed (T : Txt P w K mg F D C) (ZX : Exs P K mg C I) : FnOk P w K mg base CX0 4 (F 90) (D 90) ["_law_sheet", "_law_form", "_law_at", "_law_row"] (spM0 (tbl K C) 19 wp__law_deed) := by
  unfold wp__law_deed
  exact fnM0 T.f__law_deed sc__law_deed rfl rfl (by decide) rfl (fun cdv A outer s H E Z M H0 dl hr => (xss_cons (xs_set (i := 4) sc__law_deed.nd rfl (.inl rfl) xe_non) (xss_cons (xs_tryM rfl rfl sc__law_deed.nd takes0 (fun W pn xe tk ps => (xss_one (xs_if (xt_cmp (ho_eq hr.units) snd_eq (xe_var (pv 1)) xe_int (nomark _)) (xss_one (xs_augM (i := 0) (c := 19) tk sc__law_deed.nd rfl (.inl rfl) (xe_var (pv 3)) T.sf_Sheet T.me_Sheet_iadd.at_ T.me_Sheet_iadd.fn (rawP (ok_Sheet_iadd T ZX) T.b_Sheet_iadd) (hr.mono (by decide)))) (xss_one (xs_if (xt_cmp (ho_eq hr.units) snd_eq (xe_var (pv 1)) xe_int (nomark _)) (xss_one (xs_setI (i := 0) (c := 19) tk (pv 0) (xe_var (pv 2)) (xe_var (pv 3)) T.dq_Sheet T.me_Sheet_setitem.at_ T.me_Sheet_setitem.fn (rawP (ok_Sheet_setitem T ZX) T.b_Sheet_setitem) (hr.mono (by decide)))) (xss_one (xs_if (xt_cmp (ho_eq hr.units) snd_eq (xe_var (pv 1)) xe_int (nomark _)) (xss_one (xs_exprM (xm_methX (i := 0) (c := 19) tk (pv 0) T.cl_Sheet T.me_Sheet_drop (nm_Sheet_drop K C) (ok_Sheet_drop T ZX) (hr.mono (by decide)) T.b_Sheet_drop (xa_cons (xe_var (pv 2)) xa_nil)))) (xss_one (xs_set (i := 4) sc__law_deed.nd rfl (.inl rfl) (xe_pkV (i := 0) (c := 19) (n := 1) (hf_Sheet K C) rfl (fun Z M H0 => (xe_tup (xa_cons xe_str (xa_cons (xe_callTy (hc_strM (so_Row T) T.mi_Put_str.fn (raw0 (ok_Row_str T ZX) T.b_Row_str) (hr.mono (by decide)) hr.units (E := E0) pass0) snd_strM (by rfl) T.n_str Eb.bb_str (xa_cons (xe_ixPX (c := 19) tk (xe_var (pv 0)) (xe_var (pv 2)) T.me_Sheet_getitem.at_ T.me_Sheet_getitem.fn (fnIn_of T.f_Sheet_getitem) (rawP (ok_Sheet_getitem T ZX) T.b_Sheet_getitem) (hr.mono (by decide))) xa_nil)) xa_nil)))))))))))))) (.named (i := 5) rfl rfl ⟨rfl, by decide, Or.inl ZX.g_NoRow⟩ (ex_NoRow ZX) (fun a oe cls od pn hz hf => (xss_one (xs_set (i := 4) sc__law_deed.nd rfl (.inl rfl) (xe_tup (xa_cons xe_str (xa_cons (xe_erf ⟨ZX.i_NoRow.hg, ZX.i_NoRow.hk, ZX.i_NoRow.hs, ZX.i_NoRow.hd⟩ ZX.x_NoRow.noN rfl hz hf (pv 5)) xa_nil)))))) (.named (i := 5) rfl rfl ⟨rfl, by decide, Or.inl ZX.g_InvalidRow⟩ (ex_InvalidRow ZX) (fun a oe cls od pn hz hf => (xss_one (xs_set (i := 4) sc__law_deed.nd rfl (.inl rfl) (xe_tup (xa_cons xe_str (xa_cons (xe_erf ⟨ZX.i_InvalidRow.hg, ZX.i_InvalidRow.hk, ZX.i_InvalidRow.hs, ZX.i_InvalidRow.hd⟩ ZX.x_InvalidRow.noN rfl hz hf (pv 5)) xa_nil)))))) .nil))) (xss_one (xs_ret (xe_var (pv 4)))))))
theorem ok__law_kinds (T : Txt P w K mg F D C) (ZX : Exs P K mg C I) : FnOk P w K mg base CX0 1 (F 80) (D 80) [] (spF0 (tbl K C) wp__law_kinds) := by
  unfold wp__law_kinds
  exact fnF0 T.f__law_kinds sc__law_kinds rfl rfl rfl (fun cdv A outer s H E Z M H0 dl hr => (xss_cons (xs_setOd (i := 0) sc__law_kinds.nd rfl (.inl rfl) (xd_disp (xp_cons xe_str (xp_cons xe_str (xp_cons xe_str (xp_cons xe_str (xp_cons xe_str (xp_cons xe_str xp_nil)))))))) (xss_cons (xs_for PassesOwn.never rfl (xi_tup (xe_tup (xa_cons xe_str (xa_cons xe_str (xa_cons xe_str (xa_cons xe_str (xa_cons xe_str (xa_cons xe_str (xa_cons xe_str xa_nil))))))))) (xg_name (pg_name (i := 1) sc__law_kinds.nd rfl (.inl rfl))) (xss_one (xs_dput hr.units (pv 0) (xe_var (pv 1)) xe_str))) (xss_cons (xs_for PassesOwn.never rfl (xi_tup (xe_tup (xa_cons xe_str (xa_cons xe_str (xa_cons xe_str (xa_cons xe_str (xa_cons xe_str (xa_cons xe_str (xa_cons xe_str (xa_cons xe_str xa_nil)))))))))) (xg_name (pg_name (i := 1) sc__law_kinds.nd rfl (.inl rfl))) (xss_one (xs_dput hr.units (pv 0) (xe_var (pv 1)) xe_str))) (xss_one (xs_frzD 0 (xs_ret (xe_var (pv 0)))))))))
theorem ok__law_pick (T : Txt P w K mg F D C) (ZX : Exs P K mg C I) : FnOk P w K mg base CX0 2 (F 78) (D 78) ["_law_deal_here", "_law_some"] (spG0 (tbl K C) wp__law_pick) := by
  unfold wp__law_pick
  exact fnG0 T.f__law_pick sc__law_pick rfl rfl rfl (fun cdv A outer s H E Z M H0 dl hr => (xss_one (xs_ret (xe_ix (xe_var (pv 1)) (xe_callG (pv 0) (okd__law_draw T) (hr.mono (by decide)) (by rfl) T.g__law_draw T.f__law_draw.kp T.b__law_draw (xa_cons (xe_callB hc_len snd_len (by rfl) T.n_len Eb.bb_len (xa_cons (xe_var (pv 1)) xa_nil)) xa_nil))))))
theorem ok__law_put (T : Txt P w K mg F D C) (ZX : Exs P K mg C I) : FnOk P w K mg base CX0 3 (F 81) (D 81) ["_law_deal_here", "_law_names", "_law_most"] (spG0 (tbl K C) wp__law_put) := by
  unfold wp__law_put
  exact fnG0 T.f__law_put sc__law_put rfl rfl rfl (fun cdv A outer s H E Z M H0 dl hr => (xss_cons (xs_set (i := 3) sc__law_put.nd rfl (.inl rfl) (xe_call0 (ok__law_kinds T ZX) (hr.mono (by decide)) (by rfl) T.g__law_kinds T.f__law_kinds.kp T.b__law_kinds)) (xss_cons (xs_set (i := 4) sc__law_put.nd rfl (.inl rfl) (xe_callG (pv 0) (ok__law_pick T ZX) (hr.mono (by decide)) (by rfl) T.g__law_pick T.f__law_pick.kp T.b__law_pick (xa_cons (xe_add ((xl_callB hc_sortedS snd_sortedS (by rfl) T.n_sorted Eb.bb_sorted (xa_cons ((xl_lc (own := [("_law_one", 9)]) rfl sc__law_put.nd (xi_dic (xe_var (pv 3))) (blkOk_by (N := ["_law_deal_here", "_law_names", "_law_most", "_law_kinds_here", "_law_deed_here", "_law_args", "_law_kind", "_law_number", "_law_k", "_law_one"]) (sc := defScope s__law_put) (by decide +kernel)) (fun _ _ _ _ _ => (xg_name (pg_name (i := 9) sc__law_put.nd rfl (.inl rfl)))) (fun _ _ _ _ _ => xts_nil) (fun _ _ _ _ _ => (xe_callTy (fun _ => callE call_str_int SkE.call_str_str) snd_str (by rfl) T.n_str Eb.bb_str (xa_cons (xe_var (pv 9)) xa_nil))))).xe xa_nil))).xe ((xl_lst (xa_cons xe_str (xa_cons xe_str (xa_cons xe_str (xa_cons xe_str (xa_cons xe_str (xa_cons xe_str xa_nil)))))))).xe) xa_nil))) (xss_cons (xs_if (xt_cmp (ho_eq hr.units) snd_eq (xe_var (pv 4)) xe_str (nomark _)) (xss_one (xs_lcO (own := [("_law_k", 8)]) (i := 5) rfl sc__law_put.nd rfl rfl (sw_true rfl rfl rfl (by decide +kernel)) (xi_range1 (by rfl) T.n_range (xa_cons (xe_add xe_int (xe_callG (pv 0) (okd__law_draw T) (hr.mono (by decide)) (by rfl) T.g__law_draw T.f__law_draw.kp T.b__law_draw (xa_cons xe_int xa_nil))) xa_nil)) (blkOk_by (N := ["_law_deal_here", "_law_names", "_law_most", "_law_kinds_here", "_law_deed_here", "_law_args", "_law_kind", "_law_number", "_law_k", "_law_one"]) (sc := defScope s__law_put) (by decide +kernel)) (fun _ _ _ _ _ => (xg_name (pg_name (i := 8) sc__law_put.nd rfl (.inl rfl)))) (fun _ _ _ _ _ => xts_nil) (fun _ _ _ _ _ => (xe_callG (pv 0) (okd__law_draw T) (hr.mono (by decide)) (by rfl) T.g__law_draw T.f__law_draw.kp T.b__law_draw (xa_cons (xe_ix ((xl_lst (xa_cons xe_int (xa_cons xe_int (xa_cons xe_int xa_nil))))).xe (xe_callG (pv 0) (okd__law_draw T) (hr.mono (by decide)) (by rfl) T.g__law_draw T.f__law_draw.kp T.b__law_draw (xa_cons xe_int xa_nil))) xa_nil))))) (xss_one (xs_if (xt_cmp (ho_eq hr.units) snd_eq (xe_var (pv 4)) xe_str (nomark _)) (xss_one (xs_setO (i := 5) sc__law_put.nd rfl (.inl rfl) (xl_lst (xa_cons (xe_callG (pv 0) (ok__law_pick T ZX) (hr.mono (by decide)) (by rfl) T.g__law_pick T.f__law_pick.kp T.b__law_pick (xa_cons (xe_var (pv 1)) xa_nil)) (xa_cons (xe_callG (pv 0) (okd__law_draw T) (hr.mono (by decide)) (by rfl) T.g__law_draw T.f__law_draw.kp T.b__law_draw (xa_cons xe_int xa_nil)) xa_nil))))) (xss_cons (xs_setO (i := 5) sc__law_put.nd rfl (.inl rfl) (xl_lst xa_nil)) (xss_one (xs_for PassesOwn.never rfl (xi_str (xe_dgt hr.units (xe_var (pv 3)) (xe_var (pv 4)))) (xg_name (pg_name (i := 6) sc__law_put.nd rfl (.inl rfl))) (xss_cons (xs_set (i := 7) sc__law_put.nd rfl (.inl rfl) (xe_callG (pv 0) (okd__law_draw T) (hr.mono (by decide)) (by rfl) T.g__law_draw T.f__law_draw.kp T.b__law_draw (xa_cons (xe_if (xt_cmp ho_in snd_in (xe_var (pv 4)) (xe_tup (xa_cons xe_str (xa_cons xe_str (xa_cons xe_str xa_nil)))) (by rfl)) xe_int (xe_add (xe_var (pv 2)) xe_int)) xa_nil))) (xss_one (xs_app (pv 5) (xe_if (xt_cmp (ho_eq hr.units) snd_eq (xe_var (pv 6)) xe_str (nomark _)) (xe_var (pv 7)) (xe_callG (pv 0) (ok__law_pick T ZX) (hr.mono (by decide)) (by rfl) T.g__law_pick T.f__law_pick.kp T.b__law_pick (xa_cons (xe_var (pv 1)) xa_nil)))))))))))) (xss_one (xs_frz 5 (xs_ret (xe_tup (xa_cons xe_str (xa_cons (xe_callG (pv 0) (ok__law_pick T ZX) (hr.mono (by decide)) (by rfl) T.g__law_pick T.f__law_pick.kp T.b__law_pick (xa_cons (xe_var (pv 1)) xa_nil)) (xa_cons (xe_var (pv 4)) (xa_cons (xe_callTy hc_tuple snd_tuple (by rfl) T.n_tuple Eb.bb_tuple (xa_cons (xe_var (pv 5)) xa_nil)) xa_nil))))))))))))

end
end K15

namespace K15
open PySem PySem.Spec PyProof.Rows L2 Eb
section
variable {P : Program} {w : World} {K : PySem.W.Frag} {mg : Str → Option Value} {base : Heap} {F : Nat → Addr} {D : Nat → FuncData} {C I : Nat → Addr}
theorem ok__law_ask (T : Txt P w K mg F D C) (ZX : Exs P K mg C I) : ∀ n, FnOk P w K mg base CX0 (2 + n) (F 82) (D 82) ["_law_deal_here", "_law_names", "_law_down"] (spG0 (tbl K C) (wp__law_ask n)) := by
  intro n
  induction n with
  | zero =>
    rw [wpz__law_ask]
    exact fnG0 (k := 1) T.f__law_ask sc__law_ask rfl rfl rfl (fun cdv A outer s H E Z M H0 dl hr => xss_never _ (List.cons_ne_nil _ _))
  | succ n ih =>
    rw [wps__law_ask]
    exact fnG0 (k := 2 + n) T.f__law_ask sc__law_ask rfl rfl rfl (fun cdv A outer s H E Z M H0 dl hr => (xss_cons (xs_if (XW.xt (xw_and (xt_cmp (fun _ => op_gt) snd_gt (xe_var (pv 2)) xe_int (nomark _)) (xw_and1 (xt_cmp (ho_eq hr.units) snd_eq (xe_callG (pv 0) (okd__law_draw T) (hr.mono (by omega)) (by rfl) T.g__law_draw T.f__law_draw.kp T.b__law_draw (xa_cons xe_int xa_nil)) xe_int (nomark _))))) (xss_one (xs_ret (xe_tup (xa_cons xe_str (xa_cons (xe_callG (pv 0) ih (hr.mono (by omega)) (by rfl) T.g__law_ask T.f__law_ask.kp T.b__law_ask (xa_cons (xe_var (pv 1)) (xa_cons (xe_sub (xe_var (pv 2)) xe_int) xa_nil))) xa_nil))))) xss_nil) (xss_cons (xs_set (i := 3) sc__law_ask.nd rfl (.inl rfl) (xe_callG (pv 0) (ok__law_pick T ZX) (hr.mono (by omega)) (by rfl) T.g__law_pick T.f__law_pick.kp T.b__law_pick (xa_cons ((xl_lst (xa_cons xe_str (xa_cons xe_str (xa_cons xe_str (xa_cons xe_str (xa_cons xe_str xa_nil))))))).xe xa_nil))) (xss_cons (xs_lcV (own := [("_law_k", 5)]) (i := 4) rfl sc__law_ask.nd rfl rfl (sw_true rfl rfl rfl (by decide +kernel)) (xi_range1 (by rfl) T.n_range (xa_cons (xe_add xe_int (xe_callTy (fun _ => call_int1) snd_int1 (by rfl) T.n_int Eb.bb_int (xa_cons (xe_cmp ho_in snd_in (xe_var (pv 3)) (xe_tup (xa_cons xe_str (xa_cons xe_str (xa_cons xe_str xa_nil)))) (by rfl)) xa_nil))) xa_nil)) (blkOk_by (N := ["_law_deal_here", "_law_names", "_law_down", "_law_word", "_law_some", "_law_k"]) (sc := defScope s__law_ask) (by decide +kernel)) (fun _ _ _ _ _ => (xg_name (pg_name (i := 5) sc__law_ask.nd rfl (.inl rfl)))) (fun _ _ _ _ _ => xts_nil) (fun _ _ _ _ _ => (xe_callG (pv 0) (ok__law_pick T ZX) (hr.mono (by omega)) (by rfl) T.g__law_pick T.f__law_pick.kp T.b__law_pick (xa_cons (xe_var (pv 1)) xa_nil)))) (xss_one (xs_ret (xe_tup (xa_cons xe_str (xa_cons (xe_var (pv 3)) (xa_cons (xe_callTy hc_tuple snd_tuple (by rfl) T.n_tuple Eb.bb_tuple (xa_cons (xe_var (pv 4)) xa_nil)) xa_nil))))))))))
theorem ok__law_rows (T : Txt P w K mg F D C) (ZX : Exs P K mg C I) : ∀ n, FnOk P w K mg base CX0 (11 + n) (F 84) (D 84) ["_law_deal_here", "_law_names", "_law_room", "_law_down", "_law_most"] (spG0 (tbl K C) (wp__law_rows n)) := by
  intro n
  induction n with
  | zero =>
    rw [wpz__law_rows]
    exact fnG0 (k := 10) T.f__law_rows sc__law_rows rfl rfl rfl (fun cdv A outer s H E Z M H0 dl hr => xss_never _ (List.cons_ne_nil _ _))
  | succ n ih =>
    rw [wps__law_rows]
    exact fnG0 (k := 11 + n) T.f__law_rows sc__law_rows rfl rfl rfl (fun cdv A outer s H E Z M H0 dl hr => (xss_cons (xs_parOV (i := 5) (j := 6) (by rfl) sc__law_rows.nd rfl rfl (by decide) rfl rfl (xl_lst xa_nil) (xe_var (pv 2)) (by rfl)) (xss_cons (xs_while PassesOwn.never (XW.xt (xw_and (xt_cmp (fun _ => op_gt) snd_gt (xe_var (pv 6)) xe_int (nomark _)) (xw_and1 (xt_cmp (fun _ => op_gt) snd_gt (xe_callG (pv 0) (okd__law_draw T) (hr.mono (by omega)) (by rfl) T.g__law_draw T.f__law_draw.kp T.b__law_draw (xa_cons xe_int xa_nil)) xe_int (nomark _))))) (xss_cons (xs_set (i := 7) sc__law_rows.nd rfl (.inl rfl) (xe_callG (pv 0) (okd__law_draw T) (hr.mono (by omega)) (by rfl) T.g__law_draw T.f__law_draw.kp T.b__law_draw (xa_cons xe_int xa_nil))) (xss_cons (xs_set (i := 8) sc__law_rows.nd rfl (.inl rfl) (xe_callG (pv 0) (ok__law_put T ZX) (hr.mono (by omega)) (by rfl) T.g__law_put T.f__law_put.kp T.b__law_put (xa_cons (xe_var (pv 1)) (xa_cons (xe_var (pv 4)) xa_nil)))) (xss_cons (xs_if (XW.xt (xw_and (xt_cmp (ho_eq hr.units) snd_eq (xe_var (pv 7)) xe_int (nomark _)) (xw_and1 (xt_cmp (fun _ => op_lt) snd_lt (xe_var (pv 6)) xe_int (nomark _))))) (xss_one (xs_set (i := 8) sc__law_rows.nd rfl (.inl rfl) (xe_tup (xa_cons xe_str xa_nil)))) (xss_one (xs_if (XW.xt (xw_and (xt_cmp (fun _ => op_lt) snd_lt (xe_var (pv 7)) xe_int (nomark _)) (xw_and1 (xt_cmp (fun _ => op_gt) snd_gt (xe_var (pv 3)) xe_int (nomark _))))) (xss_cons (xs_set (i := 9) sc__law_rows.nd rfl (.inl rfl) (xe_callTy hc_tuple snd_tuple (by rfl) T.n_tuple Eb.bb_tuple (xa_cons (xe_callG (pv 0) ih (hr.mono (by omega)) (by rfl) T.g__law_rows T.f__law_rows.kp T.b__law_rows (xa_cons (xe_var (pv 1)) (xa_cons (xe_sub (xe_var (pv 6)) xe_int) (xa_cons (xe_sub (xe_var (pv 3)) xe_int) (xa_cons (xe_var (pv 4)) xa_nil))))) xa_nil))) (xss_cons (xs_set (i := 10) sc__law_rows.nd rfl (.inl rfl) (xe_sub (xe_sub (xe_var (pv 6)) xe_int) (xe_callB (hc_sum rfl) snd_sum (by rfl) T.n_sum Eb.bb_sum (xa_cons ((xl_lc (own := [("_law_one", 12)]) rfl sc__law_rows.nd (xi_tup (xe_var (pv 9))) (blkOk_by (N := ["_law_deal_here", "_law_names", "_law_room", "_law_down", "_law_most", "_law_found", "_law_left", "_law_form", "_law_row", "_law_rows_here", "_law_rest", "_law_test", "_law_one"]) (sc := defScope s__law_rows) (by decide +kernel)) (fun _ _ _ _ _ => (xg_name (pg_name (i := 12) sc__law_rows.nd rfl (.inl rfl)))) (fun _ _ _ _ _ => xts_nil) (fun _ _ _ _ _ => (xe_call (ok__law_count T ZX 9) (hr.mono (by omega)) (by rfl) T.g__law_count T.f__law_count.kp T.b__law_count (xa_cons (xe_var (pv 12)) xa_nil))))).xe xa_nil)))) (xss_cons (xs_set (i := 8) sc__law_rows.nd rfl (.inl rfl) (xe_tup (xa_cons xe_str (xa_cons (xe_callG (pv 0) (okd__law_draw T) (hr.mono (by omega)) (by rfl) T.g__law_draw T.f__law_draw.kp T.b__law_draw (xa_cons xe_int xa_nil)) (xa_cons (xe_var (pv 9)) xa_nil))))) (xss_one (xs_if (xt_cmp (fun _ => op_lt) snd_lt (xe_var (pv 7)) xe_int (nomark _)) (xss_cons (xs_set (i := 11) sc__law_rows.nd rfl (.inl rfl) (xe_callG (pv 0) (ok__law_ask T ZX 9) (hr.mono (by omega)) (by rfl) T.g__law_ask T.f__law_ask.kp T.b__law_ask (xa_cons (xe_var (pv 1)) (xa_cons xe_int xa_nil)))) (xss_one (xs_set (i := 8) sc__law_rows.nd rfl (.inl rfl) (xe_tup (xa_cons xe_str (xa_cons (xe_var (pv 11)) (xa_cons (xe_var (pv 9)) (xa_cons (xe_callTy hc_tuple snd_tuple (by rfl) T.n_tuple Eb.bb_tuple (xa_cons (xe_callG (pv 0) ih (hr.mono (by omega)) (by rfl) T.g__law_rows T.f__law_rows.kp T.b__law_rows (xa_cons (xe_var (pv 1)) (xa_cons (xe_var (pv 10)) (xa_cons (xe_sub (xe_var (pv 3)) xe_int) (xa_cons (xe_var (pv 4)) xa_nil))))) xa_nil)) xa_nil)))))))) xss_nil))))) xss_nil))) (xss_cons (xs_app (pv 5) (xe_var (pv 8))) (xss_one (xs_set (i := 6) sc__law_rows.nd rfl (.inl rfl) (xe_sub (xe_var (pv 6)) (xe_call (ok__law_count T ZX 9) (hr.mono (by omega)) (by rfl) T.g__law_count T.f__law_count.kp T.b__law_count (xa_cons (xe_var (pv 8)) xa_nil)))))))))) (xss_one (xs_frz 5 (xs_ret (xe_var (pv 5))))))))
theorem ok__law_words (T : Txt P w K mg F D C) (ZX : Exs P K mg C I) : FnOk P w K mg base CX0 3 (F 79) (D 79) ["_law_deal_here", "_law_amount"] (spG0 (tbl K C) wp__law_words) := by
  unfold wp__law_words
  exact fnG0 T.f__law_words sc__law_words rfl rfl rfl (fun cdv A outer s H E Z M H0 dl hr => (xss_cons (xs_set (i := 2) sc__law_words.nd rfl (.inr rfl) xe_str) (xss_cons (xs_set (i := 3) sc__law_words.nd rfl (.inl rfl) ((xl_lst (xa_cons xe_str (xa_cons xe_str (xa_cons xe_str (xa_cons xe_str (xa_cons xe_str (xa_cons xe_str (xa_cons xe_str (xa_cons xe_str (xa_cons xe_str (xa_cons xe_str (xa_cons xe_str (xa_cons xe_str xa_nil)))))))))))))).xe) (xss_cons (xs_setO (i := 4) sc__law_words.nd rfl (.inr rfl) (xl_lst xa_nil)) (xss_cons (xs_for PassesOwn.never rfl (xi_range1 (by rfl) T.n_range (xa_cons (xe_var (pv 1)) xa_nil)) (xg_name (pg_name (i := 5) sc__law_words.nd rfl (.inl rfl))) (xss_cons (xs_set (i := 6) sc__law_words.nd rfl (.inl rfl) (xe_join xe_str ((xl_lc (own := [("_law_at", 7)]) rfl sc__law_words.nd (xi_range1 (by rfl) T.n_range (xa_cons (xe_add xe_int (xe_callG (pv 0) (okd__law_draw T) (hr.mono (by decide)) (by rfl) T.g__law_draw T.f__law_draw.kp T.b__law_draw (xa_cons xe_int xa_nil))) xa_nil)) (blkOk_by (N := ["_law_deal_here", "_law_amount", "_law_letters", "_law_kept", "_law_found", "_law_k", "_law_word", "_law_at", "_law_one"]) (sc := defScope s__law_words) (by decide +kernel)) (fun _ _ _ _ _ => (xg_name (pg_name (i := 7) sc__law_words.nd rfl (.inl rfl)))) (fun _ _ _ _ _ => xts_nil) (fun _ _ _ _ _ => (xe_callG (pv 0) (ok__law_pick T ZX) (hr.mono (by decide)) (by rfl) T.g__law_pick T.f__law_pick.kp T.b__law_pick (xa_cons (xe_var (pv 2)) xa_nil))))).xe)) (xss_cons (xs_if (xt_cmp (ho_eq hr.units) snd_eq (xe_callG (pv 0) (okd__law_draw T) (hr.mono (by decide)) (by rfl) T.g__law_draw T.f__law_draw.kp T.b__law_draw (xa_cons xe_int xa_nil)) xe_int (nomark _)) (xss_one (xs_set (i := 6) sc__law_words.nd rfl (.inl rfl) (xe_callG (pv 0) (ok__law_pick T ZX) (hr.mono (by decide)) (by rfl) T.g__law_pick T.f__law_pick.kp T.b__law_pick (xa_cons (xe_var (pv 3)) xa_nil)))) xss_nil) (xss_one (xs_app (pv 4) (xe_peek 4 (xe_ix ((xl_lc (own := [("_law_one", 8)]) rfl sc__law_words.nd (xi_list ((xl_lst (xa_cons (xe_var (pv 6)) (xa_cons xe_str (xa_cons xe_str (xa_cons xe_str (xa_cons xe_str xa_nil))))))).xe) (blkOk_by (N := ["_law_deal_here", "_law_amount", "_law_letters", "_law_kept", "_law_found", "_law_k", "_law_word", "_law_at", "_law_one"]) (sc := defScope s__law_words) (by decide +kernel)) (fun _ _ _ _ _ => (xg_name (pg_name (i := 8) sc__law_words.nd rfl (.inl rfl)))) (fun _ _ _ _ _ => (xts_one (xt_cmp ho_notin snd_in (xe_var (pv 8)) (xe_var (pv 4)) (by rfl)))) (fun _ _ _ _ _ => (xe_var (pv 8))))).xe xe_int))))))) (xss_one (xs_frz 4 (xs_ret (xe_var (pv 4))))))))))
theorem ok_law (T : Txt P w K mg F D C) (ZX : Exs P K mg C I) (hw : w_law) : FnOk P w K mg base CX0 32 (F 93) (D 93) ["_law_script"] (sp_law K) := by
  refine T.f_law.ok sc_law (fun vs H Q E h => ?_) (fun cdv A outer s H vs Q E hr h => ?_)
  · obtain ⟨a, ns, rfl, _⟩ := h
    rfl
  · obtain ⟨a, ns, rfl, hs, hn, q⟩ := h
    exact law_body (B := tbl K C) (i := 1) (ps_set (i := 1) sc_law.nd rfl (.inl rfl) (pe_call (ok__law_deal T) (hr.mono (by decide)) (by rfl) T.g__law_deal T.f__law_deal.kp T.b__law_deal .nil pass0 (pa_cons (pv 0) (pa_cons pe_int pa_nil)))) (fun Z M H0 dl => (xss_cons (xs_set (i := 2) sc_law.nd rfl (.inl rfl) (xe_callG (pv 1) (ok__law_words T ZX) (hr.mono (by decide)) (by rfl) T.g__law_words T.f__law_words.kp T.b__law_words (xa_cons (xe_add xe_int (xe_callG (pv 1) (okd__law_draw T) (hr.mono (by decide)) (by rfl) T.g__law_draw T.f__law_draw.kp T.b__law_draw (xa_cons xe_int xa_nil))) xa_nil))) (xss_cons (xs_set (i := 3) sc_law.nd rfl (.inl rfl) (xe_callG (pv 1) (ok__law_rows T ZX 9) (hr.mono (by decide)) (by rfl) T.g__law_rows T.f__law_rows.kp T.b__law_rows (xa_cons (xe_var (pv 2)) (xa_cons xe_int (xa_cons xe_int (xa_cons xe_int xa_nil)))))) (xss_cons (xs_lcO (own := [("_law_one", 17)]) (i := 4) rfl sc_law.nd rfl rfl (sw_true rfl rfl rfl (by decide +kernel)) (xi_list (xe_var (pv 3))) (blkOk_by (N := ["_law_script", "_law_deal_here", "_law_names", "_law_models", "_law_rows_here", "_law_sheet", "_law_one_side", "_law_built", "_law_kept", "_law_turn", "_law_form", "_law_at", "_law_other", "_law_row", "_law_due", "_law_stands", "_law_thing", "_law_one"]) (sc := defScope s_law) (by decide +kernel)) (fun _ _ _ _ _ => (xg_name (pg_name (i := 17) sc_law.nd rfl (.inl rfl)))) (fun _ _ _ _ _ => xts_nil) (fun _ _ _ _ _ => (xe_call (ok__law_row_of T ZX 9) (hr.mono (by decide)) (by rfl) T.g__law_row_of T.f__law_row_of.kp T.b__law_row_of (xa_cons (xe_var (pv 17)) xa_nil)))) (xss_cons (xs_parNew (i := 5) (j := 6) (c := 19) (l := 4) (by rfl) sc_law.nd rfl rfl (by decide) rfl rfl (hf_Sheet K C) (by decide) (pv 4) T.mk_Sheet (okL_Sheet_init T ZX) (hr.mono (by decide)) (by rfl) T.gc_Sheet (xe_mkLo (pv 4) T.mk_Program (okL_Program_init T ZX) (hr.mono (by decide)) (by rfl) T.gc_Program) (by rfl)) (xss_cons (xs_app (pv 4) (xe_makeR0 T.mk_Stop (okr_Stop_init T ZX) (hr.mono (by decide)) (by rfl) T.gc_Stop)) (xss_cons (xs_par (i := 7) (j := 8) (by rfl) sc_law.nd rfl rfl (by decide) rfl rfl (xa_cons (xe_pkV (i := 5) (c := 19) (n := 1) (hf_Sheet K C) rfl (fun Z M H0 => (xe_meth0 (c := 19) (xe_var (pv 5)) T.cl_Sheet T.me_Sheet_made (nm_Sheet_made K C) (ok_Sheet_made T ZX) (hr.mono (by decide)) T.b_Sheet_made))) (xa_cons (xe_callTy (fun _ => call_strOwn T.me_Program_str.at_ T.me_Program_str.fn (raw0 (ok_Program_str T ZX) T.b_Program_str) (hr.mono (by decide)) hr.units (E := E0) pass0) snd_strO (by rfl) T.n_str Eb.bb_str (xa_cons (xe_var (pv 6)) xa_nil)) xa_nil)) (by rfl)) (xss_cons (xs_for PassesOwn.never rfl (xi_range1 (by rfl) T.n_range (xa_cons (xe_callG (pv 1) (okd__law_draw T) (hr.mono (by decide)) (by rfl) T.g__law_draw T.f__law_draw.kp T.b__law_draw (xa_cons xe_int xa_nil)) xa_nil)) (xg_name (pg_name (i := 9) sc_law.nd rfl (.inl rfl))) (xss_cons (xs_par (i := 10) (j := 11) (by rfl) sc_law.nd rfl rfl (by decide) rfl rfl (xa_cons (xe_callG (pv 1) (okd__law_draw T) (hr.mono (by decide)) (by rfl) T.g__law_draw T.f__law_draw.kp T.b__law_draw (xa_cons xe_int xa_nil)) (xa_cons (xe_sub (xe_callG (pv 1) (okd__law_draw T) (hr.mono (by decide)) (by rfl) T.g__law_draw T.f__law_draw.kp T.b__law_draw (xa_cons (xe_add (xe_callB hc_len snd_len (by rfl) T.n_len Eb.bb_len (xa_cons (xe_var (pv 3)) xa_nil)) xe_int) xa_nil)) xe_int) xa_nil)) (by rfl)) (xss_cons (xs_set (i := 12) sc_law.nd rfl (.inl rfl) (xe_ix ((xl_lst (xa_cons (xe_callG (pv 1) (ok__law_put T ZX) (hr.mono (by decide)) (by rfl) T.g__law_put T.f__law_put.kp T.b__law_put (xa_cons (xe_var (pv 2)) (xa_cons xe_int xa_nil))) (xa_cons (xe_tup (xa_cons xe_str xa_nil)) (xa_cons (xe_tup (xa_cons xe_str (xa_cons xe_int (xa_cons (xe_tup (xa_cons (xe_tup (xa_cons xe_str xa_nil)) xa_nil)) xa_nil)))) xa_nil))))).xe (xe_callG (pv 1) (okd__law_draw T) (hr.mono (by decide)) (by rfl) T.g__law_draw T.f__law_draw.kp T.b__law_draw (xa_cons xe_int xa_nil)))) (xss_cons (xs_par (i := 13) (j := 14) (by rfl) sc_law.nd rfl rfl (by decide) rfl rfl (xa_cons (xe_call (ok__law_row_of T ZX 9) (hr.mono (by decide)) (by rfl) T.g__law_row_of T.f__law_row_of.kp T.b__law_row_of (xa_cons (xe_var (pv 12)) xa_nil)) (xa_cons xe_non xa_nil)) (by rfl)) (xss_cons (xs_if (xt_cmp (ho_eq hr.units) snd_eq (xe_callG (pv 1) (okd__law_draw T) (hr.mono (by decide)) (by rfl) T.g__law_draw T.f__law_draw.kp T.b__law_draw (xa_cons xe_int xa_nil)) xe_int (nomark _)) (xss_one (xs_par (i := 13) (j := 12) (by rfl) sc_law.nd rfl rfl (by decide) rfl rfl (xa_cons (xe_ix ((xl_lst (xa_cons xe_non (xa_cons xe_str (xa_cons ((xl_lst (xa_cons (xe_makeR0 T.mk_Stop (okr_Stop_init T ZX) (hr.mono (by decide)) (by rfl) T.gc_Stop) xa_nil))).xe (xa_cons (xe_makeR0 T.mk_Program (calmR (okr_Program_init T ZX)) (hr.mono (by decide)) (by rfl) T.gc_Program) xa_nil)))))).xe (xe_callG (pv 1) (okd__law_draw T) (hr.mono (by decide)) (by rfl) T.g__law_draw T.f__law_draw.kp T.b__law_draw (xa_cons xe_int xa_nil))) (xa_cons xe_non xa_nil)) (by rfl))) xss_nil) (xss_cons (xs_if (XW.xt (xw_and (xt_cmp (fun _ => op_lt) snd_lt (xe_var (pv 10)) xe_int (nomark _)) (xw_and1 (xt_cmp (fun _ => op_gt) snd_gt (xe_callB (hc_sum rfl) snd_sum (by rfl) T.n_sum Eb.bb_sum (xa_cons ((xl_lc (own := [("_law_one", 17)]) rfl sc_law.nd (xi_list (xe_var (pv 3))) (blkOk_by (N := ["_law_script", "_law_deal_here", "_law_names", "_law_models", "_law_rows_here", "_law_sheet", "_law_one_side", "_law_built", "_law_kept", "_law_turn", "_law_form", "_law_at", "_law_other", "_law_row", "_law_due", "_law_stands", "_law_thing", "_law_one"]) (sc := defScope s_law) (by decide +kernel)) (fun _ _ _ _ _ => (xg_name (pg_name (i := 17) sc_law.nd rfl (.inl rfl)))) (fun _ _ _ _ _ => xts_nil) (fun _ _ _ _ _ => (xe_call (ok__law_count T ZX 9) (hr.mono (by decide)) (by rfl) T.g__law_count T.f__law_count.kp T.b__law_count (xa_cons (xe_var (pv 17)) xa_nil))))).xe xa_nil)) xe_int (nomark _))))) (xss_one (xs_set (i := 10) sc_law.nd rfl (.inl rfl) xe_int)) xss_nil) (xss_cons (xs_set (i := 15) sc_law.nd rfl (.inl rfl) (xe_chain (fun _ => op_le) snd_le (fun _ => op_lt) snd_lt xe_int (xe_var (pv 11)) (xe_callB hc_len snd_len (by rfl) T.n_len Eb.bb_len (xa_cons (xe_var (pv 3)) xa_nil)))) (xss_cons (xs_if (XW.xt (xw_and (xt_cmp (fun _ => op_gt) snd_gt (xe_var (pv 10)) xe_int (nomark _)) (xw_and1 (xt_not (xt_truth (xe_var (pv 15)) (by intro _; rfl)))))) (xss_one (xs_set (i := 14) sc_law.nd rfl (.inl rfl) (xe_tup (xa_cons xe_str (xa_cons (xe_var (pv 11)) xa_nil))))) (xss_one (xs_if (XW.xt (xw_and (xt_cmp (fun _ => op_lt) snd_lt (xe_var (pv 10)) xe_int (nomark _)) (xw_and1 (xt_cmp (fun _ => op_isN) snd_isN (xe_var (pv 12)) xe_non (nomark _))))) (xss_one (xs_set (i := 14) sc_law.nd rfl (.inl rfl) (xe_tup (xa_cons xe_str (xa_cons xe_str xa_nil))))) (xss_one (xs_if (xt_cmp (ho_eq hr.units) snd_eq (xe_var (pv 10)) xe_int (nomark _)) (xss_one (xs_set (i := 3) sc_law.nd rfl (.inl rfl) (xe_add (xe_var (pv 3)) ((xl_lst (xa_cons (xe_var (pv 12)) xa_nil))).xe))) (xss_one (xs_if (xt_cmp (ho_eq hr.units) snd_eq (xe_var (pv 10)) xe_int (nomark _)) (xss_one (xs_set (i := 3) sc_law.nd rfl (.inl rfl) (xe_add (xe_add (xe_slice (xe_var (pv 3)) xo_none (xo_some (xe_var (pv 11)))) ((xl_lst (xa_cons (xe_var (pv 12)) xa_nil))).xe) (xe_slice (xe_var (pv 3)) (xo_some (xe_add (xe_var (pv 11)) xe_int)) xo_none)))) (xss_one (xs_if (xt_cmp (ho_eq hr.units) snd_eq (xe_var (pv 10)) xe_int (nomark _)) (xss_one (xs_set (i := 3) sc_law.nd rfl (.inl rfl) (xe_add (xe_slice (xe_var (pv 3)) xo_none (xo_some (xe_var (pv 11)))) (xe_slice (xe_var (pv 3)) (xo_some (xe_add (xe_var (pv 11)) xe_int)) xo_none)))) (xss_one (xs_set (i := 14) sc_law.nd rfl (.inl rfl) (xe_tup (xa_cons xe_str (xa_cons (xe_join xe_str (xe_call (ok__law_lines T ZX 20) (hr.mono (by decide)) (by rfl) T.g__law_lines T.f__law_lines.kp T.b__law_lines (xa_cons (xe_ix (xe_var (pv 3)) (xe_var (pv 11))) xa_nil))) xa_nil)))))))))))))) (xss_cons (xs_ifMC (ho_ne hr.units) snd_ne (xm_callM (i := 5) (c := 19) (pv 5) (ok__law_deed T ZX) (hr.mono (by decide)) (by rfl) T.g__law_deed T.f__law_deed.kp T.b__law_deed (xa_cons (xe_var (pv 10)) (xa_cons (xe_var (pv 11)) (xa_cons (xe_var (pv 13)) xa_nil)))) (xe_var (pv 14)) (xss_one (xs_ret xe_bl)) xss_nil) (xss_one (xs_if (xt_pkV (i := 5) (c := 19) (n := 1) (hf_Sheet K C) rfl (fun Z M H0 => (xt_not (xt_truth (xe_call (ok__law_alike T ZX) (hr.mono (by decide)) (by rfl) T.g__law_alike T.f__law_alike.kp T.b__law_alike (xa_cons (xe_var (pv 5)) (xa_cons (xe_var (pv 3)) xa_nil))) (by intro _; rfl))))) (xss_one (xs_ret xe_bl)) xss_nil))))))))))) (xss_cons (xs_for PassesOwn.never rfl (xi_tup (xe_tup (xa_cons xe_non (xa_cons xe_int (xa_cons xe_str (xa_cons ((xl_lst (xa_cons (xe_makeR0 T.mk_Stop (okr_Stop_init T ZX) (hr.mono (by decide)) (by rfl) T.gc_Stop) (xa_cons xe_int xa_nil)))).xe (xa_cons (xe_tup (xa_cons xe_non xa_nil)) (xa_cons (xe_var (pv 7)) (xa_cons (xe_makeR0 T.mk_Stop (okr_Stop_init T ZX) (hr.mono (by decide)) (by rfl) T.gc_Stop) xa_nil))))))))) (xg_name (pg_name (i := 16) sc_law.nd rfl (.inl rfl))) (xss_one (xs_if (xt_cmp (ho_ne hr.units) snd_ne (xe_call (ok__law_begun T ZX) (hr.mono (by decide)) (by rfl) T.g__law_begun T.f__law_begun.kp T.b__law_begun (xa_cons (xe_var (pv 16)) xa_nil)) xe_str (nomark _)) (xss_one (xs_ret xe_bl)) xss_nil))) (xss_one (xs_ret (xe_andT (xe_cmp (ho_eq hr.units) snd_eq (xe_callTy (fun _ => call_strOwn T.me_Program_str.at_ T.me_Program_str.fn (raw0 (ok_Program_str T ZX) T.b_Program_str) (hr.mono (by decide)) hr.units (E := E0) pass0) snd_strO (by rfl) T.n_str Eb.bb_str (xa_cons (xe_var (pv 7)) xa_nil)) (xe_var (pv 8)) (nomark _)) (xe_one (xe_cmp (ho_eq hr.units) snd_eq (xe_callB (fun _ => call_lenOwn T.me_Sheet_len.at_ T.me_Sheet_len.fn (raw0 (ok_Sheet_len T ZX) T.b_Sheet_len) (hr.mono (by decide)) (E := E0) pass0) snd_lenOD (by rfl) T.n_len Eb.bb_len (xa_cons (xe_makeR0 T.mk_Sheet (calmR (okr_Sheet_init T ZX)) (hr.mono (by decide)) (by rfl) T.gc_Sheet) xa_nil)) xe_int (nomark _))))))))))))))) rfl hs hn (by decide) (by decide) rfl (by decide) hw q

end
end K15

namespace K15
open PySem PySem.Spec PyProof.Rows L2 Eb
theorem all_mk {w : World} {K : PySem.W.Frag} {h : Heap} {mg : Str → Option Value} {fa : Addr} (X : K.In h) (G : h.Ns mainGlobals mg) (hfa : mg "law" = some (.ref fa)) (c : HK.Says chk dqs tabs w K) :
    ∃ fd : FuncData, (∀ (s : Shared) (v : Value), BindsTo s fd ⟨[v], []⟩ [("_law_script", v)]) ∧ ∀ base : Heap, K.In base → base.Ns mainGlobals mg → FnOk (PySem.Challenge.rw_everybase_k15_sheets).prog w K mg base CX0 32 fa fd ["_law_script"] (Eb.sp_law K) := by
  have c0 := c.chk_
  unfold chk at c0
  obtain ⟨g0, c0⟩ := HK.ba c0
  obtain ⟨g1, c0⟩ := HK.ba c0
  obtain ⟨g2, c0⟩ := HK.ba c0
  obtain ⟨g3, c0⟩ := HK.ba c0
  obtain ⟨g4, c0⟩ := HK.ba c0
  obtain ⟨g5, c0⟩ := HK.ba c0
  obtain ⟨g6, c0⟩ := HK.ba c0
  obtain ⟨g7, c0⟩ := HK.ba c0
  have g8 := c0
  obtain rfl : 1039 = fa := by
    have e := hfa.symm.trans (HK.glo_ok X G (HK.look g8 19))
    cases e
    rfl
  obtain ⟨fd1, F1⟩ := HK.fn_fun (c.fn_ 0) (HK.look g0 0)
  obtain ⟨fd2, F2⟩ := HK.fn_fun (c.fn_ 1) (HK.look g0 2)
  obtain ⟨fd4, F4⟩ := HK.fn_fun (c.fn_ 2) (HK.look g0 4)
  obtain ⟨fd24, F24⟩ := HK.fn_fun (c.fn_ 3) (HK.look g0 6)
  obtain ⟨fd25, F25⟩ := HK.fn_fun (c.fn_ 4) (HK.look g0 8)
  obtain ⟨fd26, F26⟩ := HK.fn_fun (c.fn_ 5) (HK.look g0 10)
  obtain ⟨fd27, F27⟩ := HK.fn_fun (c.fn_ 6) (HK.look g0 12)
  obtain ⟨fd28, F28⟩ := HK.fn_fun (c.fn_ 7) (HK.look g0 14)
  obtain ⟨fd29, F29⟩ := HK.fn_fun (c.fn_ 8) (HK.look g0 16)
  obtain ⟨fd30, F30⟩ := HK.fn_fun (c.fn_ 9) (HK.look g0 17)
  obtain ⟨fd31, F31⟩ := HK.fn_fun (c.fn_ 10) (HK.look g0 18)
  obtain ⟨fd32, F32⟩ := HK.fn_fun (c.fn_ 11) (HK.look g0 19)
  obtain ⟨fd37, F37⟩ := HK.fn_fun (c.fn_ 16) (HK.look g0 30)
  obtain ⟨fd39, F39⟩ := HK.fn_fun (c.fn_ 17) (HK.look g0 31)
  obtain ⟨fd66, F66⟩ := HK.fn_fun (c.fn_ 21) (HK.look g0 38)
  obtain ⟨fd68, F68⟩ := HK.fn_fun (c.fn_ 23) (HK.look g1 1)
  obtain ⟨fd69, F69⟩ := HK.fn_fun (c.fn_ 24) (HK.look g1 2)
  obtain ⟨fd70, F70⟩ := HK.fn_fun (c.fn_ 25) (HK.look g1 3)
  obtain ⟨fd71, F71⟩ := HK.fn_fun (c.fn_ 26) (HK.look g1 4)
  obtain ⟨fd72, F72⟩ := HK.fn_fun (c.fn_ 27) (HK.look g1 5)
  obtain ⟨fd73, F73⟩ := HK.fn_fun (c.fn_ 28) (HK.look g1 6)
  obtain ⟨fd74, F74⟩ := HK.fn_fun (c.fn_ 29) (HK.look g1 7)
  obtain ⟨fd75, F75⟩ := HK.fn_fun (c.fn_ 30) (HK.look g1 8)
  obtain ⟨fd76, F76⟩ := HK.fn_fun (c.fn_ 31) (HK.look g1 10)
  obtain ⟨fd77, F77⟩ := HK.fn_fun (c.fn_ 32) (HK.look g1 12)
  obtain ⟨fd78, F78⟩ := HK.fn_fun (c.fn_ 33) (HK.look g1 14)
  obtain ⟨fd79, F79⟩ := HK.fn_fun (c.fn_ 34) (HK.look g1 16)
  obtain ⟨fd80, F80⟩ := HK.fn_fun (c.fn_ 35) (HK.look g1 18)
  obtain ⟨fd81, F81⟩ := HK.fn_fun (c.fn_ 36) (HK.look g1 20)
  obtain ⟨fd82, F82⟩ := HK.fn_fun (c.fn_ 37) (HK.look g1 22)
  obtain ⟨fd83, F83⟩ := HK.fn_fun (c.fn_ 38) (HK.look g1 24)
  obtain ⟨fd84, F84⟩ := HK.fn_fun (c.fn_ 39) (HK.look g1 26)
  obtain ⟨fd85, F85⟩ := HK.fn_fun (c.fn_ 40) (HK.look g1 28)
  obtain ⟨fd86, F86⟩ := HK.fn_fun (c.fn_ 41) (HK.look g1 30)
  obtain ⟨fd87, F87⟩ := HK.fn_fun (c.fn_ 42) (HK.look g1 32)
  obtain ⟨fd88, F88⟩ := HK.fn_fun (c.fn_ 43) (HK.look g1 34)
  obtain ⟨fd89, F89⟩ := HK.fn_fun (c.fn_ 44) (HK.look g1 36)
  obtain ⟨fd90, F90⟩ := HK.fn_fun (c.fn_ 45) (HK.look g1 38)
  obtain ⟨fd91, F91⟩ := HK.fn_fun (c.fn_ 46) (HK.look g2 0)
  obtain ⟨fd92, F92⟩ := HK.fn_fun (c.fn_ 47) (HK.look g2 2)
  obtain ⟨fd93, F93⟩ := HK.fn_fun (c.fn_ 48) (HK.look g2 4)
  have T : Txt (PySem.Challenge.rw_everybase_k15_sheets).prog w K mg (fun i => match i with | 0 => 21 | 1 => 171 | 2 => 178 | 3 => 185 | 4 => 190 | 5 => 197 | 6 => 204 | 7 => 211 | 8 => 218 | 9 => 225 | 10 => 232 | 11 => 237 | 12 => 244 | 13 => 251 | 14 => 258 | 15 => 265 | 16 => 272 | 17 => 279 | 18 => 286 | 19 => 293 | 20 => 300 | 21 => 307 | 22 => 314 | 23 => 321 | 24 => 329 | 25 => 336 | 26 => 341 | 27 => 348 | 28 => 355 | 29 => 369 | 30 => 376 | 31 => 383 | 32 => 395 | 33 => 409 | 34 => 430 | 35 => 453 | 36 => 474 | 37 => 493 | 38 => 500 | 39 => 507 | 40 => 528 | 41 => 549 | 42 => 561 | 43 => 570 | 44 => 577 | 45 => 589 | 46 => 596 | 47 => 603 | 48 => 608 | 49 => 613 | 50 => 618 | 51 => 632 | 52 => 637 | 53 => 643 | 54 => 650 | 55 => 655 | 56 => 662 | 57 => 669 | 58 => 683 | 59 => 690 | 60 => 697 | 61 => 704 | 62 => 718 | 63 => 725 | 64 => 732 | 65 => 746 | 66 => 826 | 67 => 849 | 68 => 856 | 69 => 863 | 70 => 870 | 71 => 891 | 72 => 898 | 73 => 905 | 74 => 919 | 75 => 933 | 76 => 938 | 77 => 945 | 78 => 952 | 79 => 957 | 80 => 964 | 81 => 969 | 82 => 974 | 83 => 979 | 84 => 984 | 85 => 991 | 86 => 996 | 87 => 1003 | 88 => 1010 | 89 => 1015 | 90 => 1022 | 91 => 1029 | 92 => 1034 | 93 => 1039 | _ => 0) (fun i => match i with | 1 => fd1 | 2 => fd2 | 4 => fd4 | 24 => fd24 | 25 => fd25 | 26 => fd26 | 27 => fd27 | 28 => fd28 | 29 => fd29 | 30 => fd30 | 31 => fd31 | 32 => fd32 | 37 => fd37 | 39 => fd39 | 66 => fd66 | 68 => fd68 | 69 => fd69 | 70 => fd70 | 71 => fd71 | 72 => fd72 | 73 => fd73 | 74 => fd74 | 75 => fd75 | 76 => fd76 | 77 => fd77 | 78 => fd78 | 79 => fd79 | 80 => fd80 | 81 => fd81 | 82 => fd82 | 83 => fd83 | 84 => fd84 | 85 => fd85 | 86 => fd86 | 87 => fd87 | 88 => fd88 | 89 => fd89 | 90 => fd90 | 91 => fd91 | 92 => fd92 | 93 => fd93 | _ => fd93) (fun i => match i with | 0 => 31 | 1 => 44 | 2 => 56 | 3 => 77 | 4 => 98 | 5 => 119 | 6 => 140 | 7 => 161 | 8 => 386 | 9 => 412 | 10 => 433 | 11 => 456 | 12 => 477 | 13 => 510 | 14 => 531 | 15 => 552 | 16 => 621 | 17 => 707 | 18 => 829 | 19 => 922 | _ => 0) := ⟨F1,
    (F1.binds (ps := ["value"]) fun _ _ _ _ _ _ us hl => match us, hl with | [_], _ => rfl),
    (HK.glo_ok X G (HK.look g0 1)),
    F2,
    (F2.binds (ps := ["value"]) fun _ _ _ _ _ _ us hl => match us, hl with | [_], _ => rfl),
    (HK.glo_ok X G (HK.look g0 3)),
    F4,
    (F4.binds (ps := ["value"]) fun _ _ _ _ _ _ us hl => match us, hl with | [_], _ => rfl),
    (HK.glo_ok X G (HK.look g0 5)),
    F24,
    (F24.binds (ps := ["deed", "given"]) fun _ _ _ _ _ _ us hl => match us, hl with | [_, _], _ => rfl),
    (HK.glo_ok X G (HK.look g0 7)),
    F25,
    (F25.binds (ps := ["value"]) fun _ _ _ _ _ _ us hl => match us, hl with | [_], _ => rfl),
    (HK.glo_ok X G (HK.look g0 9)),
    F26,
    (F26.binds (ps := ["value"]) fun _ _ _ _ _ _ us hl => match us, hl with | [_], _ => rfl),
    (HK.glo_ok X G (HK.look g0 11)),
    F27,
    (F27.binds (ps := ["rows"]) fun _ _ _ _ _ _ us hl => match us, hl with | [_], _ => rfl),
    (HK.glo_ok X G (HK.look g0 13)),
    F28,
    (F28.binds (ps := ["rows"]) fun _ _ _ _ _ _ us hl => match us, hl with | [_], _ => rfl),
    (HK.glo_ok X G (HK.look g0 15)),
    F29,
    (F29.binds (ps := ["self", "lines", "inner", "used"]) fun _ _ _ _ _ _ us hl => match us, hl with | [_, _, _, _], _ => rfl),
    F30,
    (F30.binds (ps := ["self", "other"]) fun _ _ _ _ _ _ us hl => match us, hl with | [_, _], _ => rfl),
    F31,
    (F31.binds (ps := ["self"]) fun _ _ _ _ _ _ us hl => match us, hl with | [_], _ => rfl),
    F32,
    (F32.binds (ps := ["name", "deed", "given"]) fun _ _ _ _ _ _ us hl => match us, hl with | [_, _, _], _ => rfl),
    (HK.glo_ok X G (HK.look g0 20)),
    (HK.sup_f (d := ⟨409, "__init__", "Put.__init__", s_Put_init⟩) (HK.free_ok X G (HK.look g0 21)) (c.fn_ 12) (HK.look g0 22) (HK.look g0 23)),
    (HK.sup_f (d := ⟨430, "__init__", "Stop.__init__", s_Stop_init⟩) (HK.free_ok X G (HK.look g0 21)) (c.fn_ 13) (HK.look g0 24) (HK.look g0 25)),
    (HK.sup_f (d := ⟨453, "__init__", "If.__init__", s_If_init⟩) (HK.free_ok X G (HK.look g0 21)) (c.fn_ 14) (HK.look g0 26) (HK.look g0 27)),
    (HK.sup_f (d := ⟨474, "__init__", "Times.__init__", s_Times_init⟩) (HK.free_ok X G (HK.look g0 21)) (c.fn_ 15) (HK.look g0 28) (HK.look g0 29)),
    F37,
    (F37.binds (ps := ["self", "text", "used"]) fun _ _ _ _ _ _ us hl => match us, hl with | [_, _, _], _ => rfl),
    F39,
    (F39.binds (ps := ["self"]) fun _ _ _ _ _ _ us hl => match us, hl with | [_], _ => rfl),
    (HK.sup_f (d := ⟨528, "__init__", "Ask.__init__", s_Ask_init⟩) (HK.free_ok X G (HK.look g0 21)) (c.fn_ 18) (HK.look g0 32) (HK.look g0 33)),
    (HK.sup_f (d := ⟨549, "__init__", "Not.__init__", s_Not_init⟩) (HK.free_ok X G (HK.look g0 21)) (c.fn_ 19) (HK.look g0 34) (HK.look g0 35)),
    (HK.fun_fd (d := ⟨746, "__init__", "Program.__init__", s_Program_init⟩) (T2 := 740) (c.fn_ 20) (HK.look g0 36) (HK.look g0 37)),
    F66,
    (F66.binds (ps := ["self"]) fun _ _ _ _ _ _ us hl => match us, hl with | [_], _ => rfl),
    (HK.fun_fd (d := ⟨849, "__init__", "Sheet.__init__", s_Sheet_init⟩) (T2 := 841) (c.fn_ 22) (HK.look g0 39) (HK.look g1 0)),
    F68,
    (F68.binds (ps := ["self", "at"]) fun _ _ _ _ _ _ us hl => match us, hl with | [_, _], _ => rfl),
    F69,
    (F69.binds (ps := ["self", "at"]) fun _ _ _ _ _ _ us hl => match us, hl with | [_, _], _ => rfl),
    F70,
    (F70.binds (ps := ["self"]) fun _ _ _ _ _ _ us hl => match us, hl with | [_], _ => rfl),
    F71,
    (F71.binds (ps := ["self", "at"]) fun _ _ _ _ _ _ us hl => match us, hl with | [_, _], _ => rfl),
    F72,
    (F72.binds (ps := ["self", "at", "row"]) fun _ _ _ _ _ _ us hl => match us, hl with | [_, _, _], _ => rfl),
    F73,
    (F73.binds (ps := ["self", "row"]) fun _ _ _ _ _ _ us hl => match us, hl with | [_, _], _ => rfl),
    F74,
    (F74.binds (ps := ["self"]) fun _ _ _ _ _ _ us hl => match us, hl with | [_], _ => rfl),
    F75,
    (F75.binds (ps := ["row"]) fun _ _ _ _ _ _ us hl => match us, hl with | [_], _ => rfl),
    (HK.glo_ok X G (HK.look g1 9)),
    F76,
    (F76.binds (ps := ["_law_script", "_law_radix"]) fun _ _ _ _ _ _ us hl => match us, hl with | [_, _], _ => rfl),
    (HK.glo_ok X G (HK.look g1 11)),
    F77,
    (F77.binds (ps := ["_law_deal_here", "_law_amount"]) fun _ _ _ _ _ _ us hl => match us, hl with | [_, _], _ => rfl),
    (HK.glo_ok X G (HK.look g1 13)),
    F78,
    (F78.binds (ps := ["_law_deal_here", "_law_some"]) fun _ _ _ _ _ _ us hl => match us, hl with | [_, _], _ => rfl),
    (HK.glo_ok X G (HK.look g1 15)),
    F79,
    (F79.binds (ps := ["_law_deal_here", "_law_amount"]) fun _ _ _ _ _ _ us hl => match us, hl with | [_, _], _ => rfl),
    (HK.glo_ok X G (HK.look g1 17)),
    F80,
    (F80.binds (ps := []) fun _ _ _ _ _ _ us hl => match us, hl with | [], _ => rfl),
    (HK.glo_ok X G (HK.look g1 19)),
    F81,
    (F81.binds (ps := ["_law_deal_here", "_law_names", "_law_most"]) fun _ _ _ _ _ _ us hl => match us, hl with | [_, _, _], _ => rfl),
    (HK.glo_ok X G (HK.look g1 21)),
    F82,
    (F82.binds (ps := ["_law_deal_here", "_law_names", "_law_down"]) fun _ _ _ _ _ _ us hl => match us, hl with | [_, _, _], _ => rfl),
    (HK.glo_ok X G (HK.look g1 23)),
    F83,
    (F83.binds (ps := ["_law_row"]) fun _ _ _ _ _ _ us hl => match us, hl with | [_], _ => rfl),
    (HK.glo_ok X G (HK.look g1 25)),
    F84,
    (F84.binds (ps := ["_law_deal_here", "_law_names", "_law_room", "_law_down", "_law_most"]) fun _ _ _ _ _ _ us hl => match us, hl with | [_, _, _, _, _], _ => rfl),
    (HK.glo_ok X G (HK.look g1 27)),
    F85,
    (F85.binds (ps := ["_law_test"]) fun _ _ _ _ _ _ us hl => match us, hl with | [_], _ => rfl),
    (HK.glo_ok X G (HK.look g1 29)),
    F86,
    (F86.binds (ps := ["_law_row"]) fun _ _ _ _ _ _ us hl => match us, hl with | [_], _ => rfl),
    (HK.glo_ok X G (HK.look g1 31)),
    F87,
    (F87.binds (ps := ["_law_rows_here"]) fun _ _ _ _ _ _ us hl => match us, hl with | [_], _ => rfl),
    (HK.glo_ok X G (HK.look g1 33)),
    F88,
    (F88.binds (ps := ["_law_test"]) fun _ _ _ _ _ _ us hl => match us, hl with | [_], _ => rfl),
    (HK.glo_ok X G (HK.look g1 35)),
    F89,
    (F89.binds (ps := ["_law_row"]) fun _ _ _ _ _ _ us hl => match us, hl with | [_], _ => rfl),
    (HK.glo_ok X G (HK.look g1 37)),
    F90,
    (F90.binds (ps := ["_law_sheet", "_law_form", "_law_at", "_law_row"]) fun _ _ _ _ _ _ us hl => match us, hl with | [_, _, _, _], _ => rfl),
    (HK.glo_ok X G (HK.look g1 39)),
    F91,
    (F91.binds (ps := ["_law_thing"]) fun _ _ _ _ _ _ us hl => match us, hl with | [_], _ => rfl),
    (HK.glo_ok X G (HK.look g2 1)),
    F92,
    (F92.binds (ps := ["_law_sheet", "_law_models"]) fun _ _ _ _ _ _ us hl => match us, hl with | [_, _], _ => rfl),
    (HK.glo_ok X G (HK.look g2 3)),
    F93,
    (HK.free_ok X G (HK.look g2 5)),
    (HK.free_ok X G (HK.look g2 6)),
    (HK.free_ok X G (HK.look g2 7)),
    (HK.free_ok X G (HK.look g2 8)),
    (HK.free_ok X G (HK.look g2 9)),
    (HK.free_ok X G (HK.look g2 10)),
    (HK.free_ok X G (HK.look g2 11)),
    (HK.free_ok X G (HK.look g2 12)),
    (HK.free_ok X G (HK.look g2 13)),
    (HK.free_ok X G (HK.look g2 14)),
    (HK.free_ok X G (HK.look g2 15)),
    (HK.free_ok X G (HK.look g2 16)),
    (HK.free_ok X G (HK.look g2 17)),
    (HK.free_ok X G (HK.look g2 18)),
    (HK.con_ok X G (HK.look g2 19)),
    (HK.con_ok X G (HK.look g2 20)),
    (HK.gdic_ok (a := 322) X G (HK.look g2 21) (c.tab_ 0 (t := (322, ["+", "-", "*", "//", "**"]))) (HK.look g2 22) (by unfold kv_SIGNS; rfl)),
    (HK.gdic_ok (a := 323) X G (HK.look g2 23) (c.tab_ 1 (t := (323, ["number", "base", "let", "turned", "least", "greatest", "sum", "many", "root", "figure", "first", "last", "joined", "common", "lesser", "rest"]))) (HK.look g2 24) (by unfold kv_PLAIN; rfl)),
    (HK.gdic_ok (a := 324) X G (HK.look g2 25) (c.tab_ 2 (t := (324, ["same", "less", "divides", "mirrored", "unlike"]))) (HK.look g2 26) (by unfold kv_ASKED; rfl)),
    (HK.glo_ok X G (HK.look g2 27)),
    (HK.kit_ok (HK.look g2 28)),
    (HK.kit_ok (HK.look g2 29)),
    (HK.kit_ok (HK.look g2 30)),
    (HK.kit_ok (HK.look g2 31)),
    (HK.kit_ok (HK.look g2 32)),
    (HK.kit_ok (HK.look g2 33)),
    (HK.glo_ok X G (HK.look g2 34)),
    (HK.cls_ok (HK.look g2 35)),
    (HK.mk_ok (HK.look g2 36)),
    (HK.met_ok (HK.look g2 37)),
    (HK.met_ok (HK.look g2 38)),
    (HK.look g2 39),
    (HK.look g3 0),
    (HK.look g3 1),
    (HK.look g3 2),
    (HK.look g3 3),
    (HK.look g3 4),
    (HK.look g3 5),
    (HK.look g3 6),
    (HK.look g3 7),
    (HK.look g3 8),
    (HK.look g3 9),
    (HK.look g3 10),
    (HK.eqO_ok (HK.look g3 11)),
    (HK.eqO_ok (HK.look g3 12)),
    (HK.eqO_ok (HK.look g3 13)),
    (of_decide_eq_true (HK.look g3 14)),
    (of_decide_eq_true (HK.look g3 15)),
    (HK.kit_ok (HK.look g3 16)),
    (HK.kit_ok (HK.look g3 17)),
    (HK.kit_ok (HK.look g3 18)),
    (HK.kit_ok (HK.look g3 19)),
    (HK.kit_ok (HK.look g3 20)),
    (HK.kit_ok (HK.look g3 21)),
    (HK.kit_ok (HK.look g3 22)),
    (HK.noa_ok (HK.look g3 23)),
    (HK.noa_ok (HK.look g3 24)),
    (HK.noa_ok (HK.look g3 25)),
    (HK.noa_ok (HK.look g3 26)),
    (HK.noa_ok (HK.look g3 27)),
    (HK.noa_ok (HK.look g3 28)),
    (HK.glo_ok X G (HK.look g3 29)),
    (HK.cls_ok (HK.look g3 30)),
    (HK.mk_ok (HK.look g3 31)),
    (HK.met_ok (HK.look g3 32)),
    (HK.met_ok (HK.look g3 33)),
    (HK.look g3 34),
    (HK.look g3 35),
    (HK.look g3 36),
    (HK.look g3 37),
    (HK.look g3 38),
    (HK.look g3 39),
    (HK.look g4 0),
    (HK.look g4 1),
    (HK.look g4 2),
    (HK.look g4 3),
    (HK.look g4 4),
    (HK.look g4 5),
    (HK.eqO_ok (HK.look g4 6)),
    (HK.eqO_ok (HK.look g4 7)),
    (HK.eqO_ok (HK.look g3 13)),
    (of_decide_eq_true (HK.look g3 14)),
    (of_decide_eq_true (HK.look g4 8)),
    (HK.kit_ok (HK.look g4 9)),
    (HK.kit_ok (HK.look g4 10)),
    (HK.kit_ok (HK.look g4 11)),
    (HK.kit_ok (HK.look g4 12)),
    (HK.kit_ok (HK.look g4 13)),
    (HK.kit_ok (HK.look g4 14)),
    (HK.kit_ok (HK.look g4 15)),
    (HK.noa_ok (HK.look g4 16)),
    (HK.noa_ok (HK.look g4 17)),
    (HK.noa_ok (HK.look g4 18)),
    (HK.glo_ok X G (HK.look g4 19)),
    (HK.cls_ok (HK.look g4 20)),
    (HK.mk_ok (HK.look g4 21)),
    (HK.met_ok (HK.look g4 22)),
    (HK.met_ok (HK.look g4 23)),
    (HK.look g4 24),
    (HK.look g4 25),
    (HK.look g4 26),
    (HK.look g4 27),
    (HK.look g4 28),
    (HK.look g4 29),
    (HK.look g4 30),
    (HK.look g4 31),
    (HK.look g4 32),
    (HK.look g4 33),
    (HK.look g4 34),
    (HK.look g4 35),
    (HK.eqO_ok (HK.look g4 36)),
    (HK.eqO_ok (HK.look g4 37)),
    (HK.eqO_ok (HK.look g3 13)),
    (of_decide_eq_true (HK.look g3 14)),
    (of_decide_eq_true (HK.look g4 38)),
    (HK.kit_ok (HK.look g4 39)),
    (HK.kit_ok (HK.look g5 0)),
    (HK.kit_ok (HK.look g5 1)),
    (HK.kit_ok (HK.look g5 2)),
    (HK.kit_ok (HK.look g5 3)),
    (HK.kit_ok (HK.look g5 4)),
    (HK.kit_ok (HK.look g5 5)),
    (HK.noa_ok (HK.look g5 6)),
    (HK.noa_ok (HK.look g5 7)),
    (HK.noa_ok (HK.look g5 8)),
    (HK.noa_ok (HK.look g5 9)),
    (HK.noa_ok (HK.look g5 10)),
    (HK.noa_ok (HK.look g5 11)),
    (HK.glo_ok X G (HK.look g5 12)),
    (HK.cls_ok (HK.look g5 13)),
    (HK.mk_ok (HK.look g5 14)),
    (HK.met_ok (HK.look g5 15)),
    (HK.met_ok (HK.look g5 16)),
    (HK.look g5 17),
    (HK.look g5 18),
    (HK.look g5 19),
    (HK.look g5 20),
    (HK.look g5 21),
    (HK.look g5 22),
    (HK.look g5 23),
    (HK.look g5 24),
    (HK.look g5 25),
    (HK.look g5 26),
    (HK.look g5 27),
    (HK.look g5 28),
    (HK.eqO_ok (HK.look g5 29)),
    (HK.eqO_ok (HK.look g5 30)),
    (HK.eqO_ok (HK.look g3 13)),
    (of_decide_eq_true (HK.look g3 14)),
    (of_decide_eq_true (HK.look g5 31)),
    (HK.kit_ok (HK.look g5 32)),
    (HK.kit_ok (HK.look g5 33)),
    (HK.kit_ok (HK.look g5 34)),
    (HK.kit_ok (HK.look g5 35)),
    (HK.kit_ok (HK.look g5 36)),
    (HK.kit_ok (HK.look g5 37)),
    (HK.kit_ok (HK.look g5 38)),
    (HK.noa_ok (HK.look g5 39)),
    (HK.noa_ok (HK.look g6 0)),
    (HK.noa_ok (HK.look g6 1)),
    (HK.noa_ok (HK.look g6 2)),
    (HK.noa_ok (HK.look g6 3)),
    (HK.glo_ok X G (HK.look g6 4)),
    (HK.kit_ok (HK.look g6 5)),
    (HK.kit_ok (HK.look g6 6)),
    (HK.kit_ok (HK.look g6 7)),
    (HK.kit_ok (HK.look g6 8)),
    (HK.kit_ok (HK.look g6 9)),
    (HK.kit_ok (HK.look g6 10)),
    (HK.glo_ok X G (HK.look g6 11)),
    (HK.cls_ok (HK.look g6 12)),
    (HK.mk_ok (HK.look g6 13)),
    (HK.met_ok (HK.look g6 14)),
    (HK.eqO_ok (HK.look g6 15)),
    (HK.eqO_ok (HK.look g6 16)),
    (HK.eqO_ok (HK.look g3 13)),
    (of_decide_eq_true (HK.look g3 14)),
    (of_decide_eq_true (HK.look g6 17)),
    (HK.kit_ok (HK.look g6 18)),
    (HK.kit_ok (HK.look g6 19)),
    (HK.kit_ok (HK.look g6 20)),
    (HK.kit_ok (HK.look g6 21)),
    (HK.kit_ok (HK.look g6 22)),
    (HK.kit_ok (HK.look g6 23)),
    (HK.kit_ok (HK.look g6 24)),
    (HK.noa_ok (HK.look g6 25)),
    (HK.noa_ok (HK.look g6 26)),
    (HK.noa_ok (HK.look g6 27)),
    (HK.noa_ok (HK.look g6 28)),
    (HK.glo_ok X G (HK.look g6 29)),
    (HK.cls_ok (HK.look g6 30)),
    (HK.mk_ok (HK.look g6 31)),
    (HK.met_ok (HK.look g6 32)),
    (HK.eqO_ok (HK.look g6 33)),
    (HK.eqO_ok (HK.look g6 34)),
    (HK.eqO_ok (HK.look g3 13)),
    (of_decide_eq_true (HK.look g3 14)),
    (of_decide_eq_true (HK.look g6 35)),
    (HK.kit_ok (HK.look g6 36)),
    (HK.kit_ok (HK.look g6 37)),
    (HK.kit_ok (HK.look g6 38)),
    (HK.kit_ok (HK.look g6 39)),
    (HK.kit_ok (HK.look g7 0)),
    (HK.kit_ok (HK.look g7 1)),
    (HK.kit_ok (HK.look g7 2)),
    (HK.noa_ok (HK.look g7 3)),
    (HK.noa_ok (HK.look g7 4)),
    (HK.noa_ok (HK.look g7 5)),
    (HK.glo_ok X G (HK.look g7 6)),
    (HK.cls_ok (HK.look g7 7)),
    (HK.mk_ok (HK.look g7 8)),
    (HK.eqO_ok (HK.look g7 9)),
    (HK.eqO_ok (HK.look g3 13)),
    (of_decide_eq_true (HK.look g3 14)),
    (of_decide_eq_true (HK.look g7 10)),
    (HK.kit_ok (HK.look g7 11)),
    (HK.kit_ok (HK.look g7 12)),
    (HK.kit_ok (HK.look g7 13)),
    (HK.kit_ok (HK.look g7 14)),
    (HK.kit_ok (HK.look g7 15)),
    (HK.kit_ok (HK.look g7 16)),
    (HK.kit_ok (HK.look g7 17)),
    (HK.noa_ok (HK.look g7 18)),
    (HK.noa_ok (HK.look g7 19)),
    (HK.noa_ok (HK.look g7 20)),
    (HK.noa_ok (HK.look g7 21)),
    (HK.met_ok (HK.look g7 22)),
    (HK.glo_ok X G (HK.look g7 23)),
    (HK.cls_ok (HK.look g7 24)),
    (HK.mk_ok (HK.look g7 25)),
    (HK.look g7 26),
    (of_decide_eq_true (HK.look g7 27)),
    (HK.eqO_ok (HK.look g7 28)),
    (HK.eqO_ok (HK.look g3 13)),
    (of_decide_eq_true (HK.look g3 14)),
    (of_decide_eq_true (HK.look g7 29)),
    (HK.kit_ok (HK.look g7 30)),
    (HK.kit_ok (HK.look g7 31)),
    (HK.kit_ok (HK.look g7 32)),
    (HK.kit_ok (HK.look g7 33)),
    (HK.kit_ok (HK.look g7 34)),
    (HK.kit_ok (HK.look g7 35)),
    (HK.kit_ok (HK.look g7 36)),
    (HK.noa_ok (HK.look g7 37)),
    (HK.met_ok (HK.look g7 38)),
    (HK.met_ok (HK.look g7 39)),
    (HK.met_ok (HK.look g8 0)),
    (HK.met_ok (HK.look g8 1)),
    (HK.met_ok (HK.look g8 2)),
    (HK.met_ok (HK.look g8 3)),
    (HK.met_ok (HK.look g8 4))⟩
  have Z : Exs (PySem.Challenge.rw_everybase_k15_sheets).prog K mg (fun i => match i with | 0 => 31 | 1 => 44 | 2 => 56 | 3 => 77 | 4 => 98 | 5 => 119 | 6 => 140 | 7 => 161 | 8 => 386 | 9 => 412 | 10 => 433 | 11 => 456 | 12 => 477 | 13 => 510 | 14 => 531 | 15 => 552 | 16 => 621 | 17 => 707 | 18 => 829 | 19 => 922 | _ => 0) (fun i => match i with | 4 => 95 | 7 => 158 | _ => 0) := ⟨(HK.glo_ok X G (HK.look g8 5)),
    (HK.glo_ok X G (HK.look g8 6)),
    (HK.sup_ok PySem.SupX.iE_ok (HK.glo_ok X G (HK.look g8 5)) (HK.free_ok X G (HK.look g0 21)) sd_NoRow rfl (c.fn_ 49) (HK.look g8 7) (HK.look g8 8) (HK.look g8 9)),
    (HK.exc_ok (HK.look g8 10)),
    (HK.exm_ok (HK.look g8 11)),
    (HK.exm_ok (HK.look g8 12)),
    (HK.sup_ok PySem.SupX.vE_ok (HK.glo_ok X G (HK.look g8 6)) (HK.free_ok X G (HK.look g0 21)) sd_InvalidRow rfl (c.fn_ 50) (HK.look g8 13) (HK.look g8 14) (HK.look g8 15)),
    (HK.exc_ok (HK.look g8 16)),
    (HK.exm_ok (HK.look g8 17)),
    (HK.exm_ok (HK.look g8 18))⟩
  exact ⟨fd93, HK.bind1 F93 fun _ _ _ _ _ _ _ => rfl, fun base _ _ => ok_law T Z law_holds⟩
end K15
open PySem PySem.W PySem.Calls PyProof.Rows
set_option maxRecDepth 100000 in
set_option maxHeartbeats 0 in
theorem PySem.Challenge.cw_everybase_k15_sheets_holds : PySem.Challenge.rw_everybase_k15_sheets.Holds := by
  w_on; o_law
  refine HandSHeadRun.head_any (r := OpenLaw.row PySem.Challenge.rw_everybase_k15_sheets) (q := view (OpenLaw.row PySem.Challenge.rw_everybase_k15_sheets).prog [102]) (H := Eb.HK.hook K15.ads K15.chk K15.dqs K15.tabs) (ob := Eb.HK.ob K15.ads K15.chk K15.dqs K15.tabs) (M := 9043) (loose := K15.loose) (d := HandSHeadRun.topDef (OpenLaw.row PySem.Challenge.rw_everybase_k15_sheets).prog 102) (kwd := []) (Eb.HK.ob_eq _ _ _ _)
    (by kernel_rfl) (fun s => by kernel_rfl) K15.run (by kernel_rfl) (by kernel_rfl) (by kernel_rfl) (by rfl) (by first | assumption | decide +kernel) (by decide +kernel) ⟨rfl, rfl, rfl, rfl, rfl, by decide +kernel⟩ ?hw ?hc
  case hw => w_witness2
  case hc =>
    refine L2.walk_ofE (l := PySem.Challenge.rw_everybase_k15_sheets) (n := 63) (k := 32) (x := "_law_script") (CX := L2.CX0) rfl (by decide) (by kernel_rfl) ⟨rfl, by decide, by decide⟩ ?F (fun _ _ _ _ z => z)
    intro w mg fa h Y G hmg0
    obtain ⟨K, KX, c⟩ := Y
    have hmg : mg ("law" : PySem.Str) = some (.ref fa) := by
      have e : (HandSHeadRun.topDef (OpenLaw.row PySem.Challenge.rw_everybase_k15_sheets).prog 102).name = ("law" : PySem.Str) := by kernel_rfl
      rw [← e]
      exact hmg0
    obtain ⟨fd, hb, hF⟩ := K15.all_mk (w := w) KX G hmg c
    exact ⟨K, fd, Eb.sp_law K, KX, hb, fun H a ns hl _ hS => ⟨a, ns, rfl, hS, hl, fun _ => rfl⟩, hF⟩

