import PyProof.Rows.All
import Wide.All
import OpenK.AllK
import Wide.FinOn
import PySem.Challenge.RW_everybase_k31_sets_of_bases_mixed
import HandS.ForMost
import HandS.ForExc
import HandS.Wide
import HandS.Style
import HandS.RaiseMore
import HandS.IsInst
import HandS.Flow
import HandS.FStr
import HandS.Codes
import HandS.SortInts
import HandS.Conv
import HandS.TupAny
import HandS.TupLe
import HandS.SetFor
import HandS.Walk
import KE.KTupSum
import KE.GoesEnum
import KE.KExcSuper
import KE.RegKIsAll
import HandS.Exc
import HandS.ExcOwn
import HandS.ExcField
import HandS.ExcIs
import HandS.Ends
import HandS.Star
import HandS.Property
import HandS.NoneIn
import HandS.ClsMeth
import KE.KCallOwn
import HandS.MakeKwOnly
import HandS.SlotsOwn
import KE.KOpsOwn
import KE.KIntText
import KE.KStateDown
import HandS.Defaults
import HandS.Head0
import HandS.Head1
import HandS.Head2
import HandS.HeadEnd
import HandS.HeadHook1
import HandS.HeadHook2
import HandS.HeadHook3
import HandS.Zip
set_option Elab.async false
set_option linter.all false
set_option maxRecDepth 100000
set_option maxHeartbeats 4000000
/-! ## own layer: what the run of the top looks at (first in the file, where the memory is free) -/
namespace PySem
namespace SupX
open PySem.W PySem.Calls PyProof.Rows PySem.HandSPX
/-- a built-in class of errors -/
structure Bs where
  B : String
  newId : String
  initId : String
  bm : List Value
abbrev vE : Bs := ⟨"ValueError", "ValueError.__new__", "ValueError.__init__", [.type "ValueError", .type "Exception", .type "BaseException", .type "object"]⟩
abbrev iE : Bs := ⟨"IndexError", "IndexError.__new__", "IndexError.__init__", [.type "IndexError", .type "LookupError", .type "Exception", .type "BaseException", .type "object"]⟩
/-- own classes, then b -/
def refsT (b : List Value) : List Value → Bool
  | .ref _ :: r => refsT b r
  | l => l == b
end SupX
end PySem
namespace Eb
namespace HK
open PySem PySem.Spec PyProof.Rows L2 PySem.SupX
abbrev Fg := PySem.W.Frag
/-- the heap as a list, the latest objects first -/
def frK {α : Type} (g : Addr → Option Obj) : List Addr → Fg → (Fg → α) → α
  | [], K, k => k K
  | a :: r, K, k => HandSHeadRun.frNat a fun a => match g a with
    | some o => frK g r ((a, o) :: K) k
    | none => frK g r K k
theorem in_cons {K : Fg} {h : Heap} {a : Addr} {o : Obj} (X : K.In h) (e : h.get? a = some o) : PySem.W.Frag.In ((a, o) :: K) h := fun b u hb => by
  have hb2 : (match b == a with | true => some o | false => K.lookup b) = some u := hb
  cases q : (b == a) with
  | true =>
    rw [q] at hb2
    rw [beq_iff_eq.mp q, e]
    exact hb2
  | false =>
    rw [q] at hb2
    exact X b u hb2
theorem frK_ex {α : Type} {h : Heap} {k : Fg → α} : ∀ (as : List Addr) (K : Fg), K.In h → ∃ K' : Fg, K'.In h ∧ frK h.get? as K k = k K'
  | [], K, X => ⟨K, X, rfl⟩
  | a :: r, K, X => by
    unfold frK
    rw [HandSHeadRun.frNat_eq]
    cases e : h.get? a with
    | none => exact frK_ex r K X
    | some o => exact frK_ex r _ (in_cons X e)
/-! ### functions -/
abbrev FnW : Type := Option (Str × Str × Arguments × FuncBody × Scope × Addr × Addr)
def fnW (K : Fg) (a : Addr) : FnW := match K.lookup a with
  | some ⟨_, _, .func fd, _⟩ => some (fd.name, fd.qualname, fd.params, fd.body, fd.scope, fd.globals, fd.builtins)
  | _ => none
/-- a def: where it lies, its text -/
structure Dq where
  ad : Addr
  name : Str
  qual : Str
  st : Stmt
def Dq.val (d : Dq) : FnW := some (d.name, d.qual, defArgs d.st, .stmts (defBody d.st), defScope d.st, mainGlobals, builtinsNs)
/-- the rest of a def: its closure, its defaults, its code -/
def fnB (K : Fg) (a : Addr) (qual : Str) (clo : List (Str × Addr)) (dV kV : Value) : Bool := match K.lookup a with
  | some ⟨_, _, .func fd, _⟩ => decide (fd.closure = clo) && (decide (fd.defaults = dV) && (decide (fd.kwdefaults = kV) && PySem.W.codeIn K fd.code qual))
  | _ => false
abbrev fnC (name qual : Str) (st : Stmt) (clo : List (Str × Addr)) (dV kV doc pm : Value) (an : Option Addr) (cdv ct : Value) : FuncData :=
  { name, qualname := qual, params := defArgs st, body := .stmts (defBody st), scope := defScope st, globals := mainGlobals, closure := clo, defaults := dV, kwdefaults := kV, doc, pyModule := pm, annotations := an, code := cdv, closureTuple := ct, builtins := builtinsNs }
theorem fn_get {K : Fg} {d : Dq} {clo : List (Str × Addr)} {dV kV : Value} (e : fnW K d.ad = d.val) (c : fnB K d.ad d.qual clo dV kV = true) :
    ∃ oc od osl doc pm an cdv ct, K.lookup d.ad = some ⟨oc, od, .func (fnC d.name d.qual d.st clo dV kV doc pm an cdv ct), osl⟩ ∧ PySem.W.codeIn K cdv d.qual = true := by
  unfold fnB at c
  unfold fnW at e
  cases q : K.lookup d.ad with
  | none => rw [q] at c; cases c
  | some o =>
    obtain ⟨oc, od, dt, osl⟩ := o
    rw [q] at c e
    cases dt with
    | func fd =>
      obtain ⟨n1, n2, n3, n4, n5, n6, n7, n8, n9, n10, n11, n12, n13, n14, n15⟩ := fd
      have e2 : (some (n1, n2, n3, n4, n5, n6, n15) : FnW) = some (d.name, d.qual, defArgs d.st, .stmts (defBody d.st), defScope d.st, mainGlobals, builtinsNs) := e
      simp only [Option.some.injEq, Prod.mk.injEq] at e2
      obtain ⟨h1, h2, h3, h4, h5, h6, h7⟩ := e2
      simp only [Bool.and_eq_true, decide_eq_true_eq] at c
      obtain ⟨c1, c2, c3, c4⟩ := c
      subst h1 h2 h3 h4 h5 h6 h7 c1 c2 c3
      exact ⟨oc, od, osl, n10, n11, n12, n13, n14, rfl, c4⟩
    | _ => cases c
theorem keep_fn {K : Fg} {f : Addr} {oc : Value} {od : Option Addr} {fd : FuncData} {osl : Array (Option Value)} (e : K.lookup f = some ⟨oc, od, .func fd, osl⟩) : PySem.W.keepIn K (.ref f) = true := by
  unfold PySem.W.keepIn
  dsimp only
  rw [e]
/-- a plain def -/
theorem fn_fun {K : Fg} {d : Dq} (e : fnW K d.ad = d.val) (c : fnB K d.ad d.qual [] .none .none = true) : ∃ fd, Fun K d.name d.qual d.st d.ad fd := by
  obtain ⟨oc, od, osl, doc, pm, an, cdv, ct, h1, h2⟩ := fn_get e c
  exact ⟨_, fun_mk h1 h2 (keep_fn h1)⟩
/-! ### the Hook -/
abbrev Tab : Type := Addr × List Str
abbrev Al : Type := Bool × List FnW × List (Option (List (Option (Str × Int))))
def obsK (chk : Fg → Bool) (fns : List Dq) (tabs : List Tab) (K : Fg) : Al := (chk K, fns.map (fun d => fnW K d.ad), tabs.map fun t => He.dicW K t.1)
def valK (fns : List Dq) (tabs : List Tab) (w : World) : Al := (true, fns.map Dq.val, tabs.map fun t => some (He.keysIn w.params t.2))
def Says (chk : Fg → Bool) (fns : List Dq) (tabs : List Tab) (w : World) (K : Fg) : Prop := obsK chk fns tabs K = valK fns tabs w
theorem in_nil {h : Heap} : PySem.W.Frag.In [] h := fun _ _ e => nomatch (show (none : Option Obj) = some _ from e)
def hook (ads : List Addr) (chk : Fg → Bool) (fns : List Dq) (tabs : List Tab) : PySem.W.Hook where
  α := Al
  obs := fun s => frK s.heap.get? ads [] (obsK chk fns tabs)
  val := fun w => valK fns tabs w
  says := fun w h => ∃ K : Fg, K.In h ∧ Says chk fns tabs w K
  of := fun _ s e => by
    obtain ⟨K, h1, h2⟩ := frK_ex (h := s.heap) (k := obsK chk fns tabs) ads [] in_nil
    exact ⟨K, h1, h2.symm.trans e⟩
  keeps := fun _ _ _ ⟨K, hK, c⟩ k => ⟨K, PySem.W.Frag.In.keeps hK k, c⟩
def ob (ads : List Addr) (chk : Fg → Bool) (fns : List Dq) (tabs : List Tab) (s : PySem.W.SharedT) : Al := frK (HandSHeadRun.getT s) ads [] (obsK chk fns tabs)
theorem ob_eq (ads : List Addr) (chk : Fg → Bool) (fns : List Dq) (tabs : List Tab) (s : PySem.W.SharedT) : ob ads chk fns tabs s = (hook ads chk fns tabs).obs s.abs := by
  have e : HandSHeadRun.getT s = s.abs.heap.get? := funext fun a => HandSHeadRun.getT_eq s a
  show _ = frK s.abs.heap.get? ads [] (obsK chk fns tabs)
  rw [← e]
  rfl
section
variable {K : Fg} {h : Heap} {mg : Str → Option Value} {C f p : Addr}
def eqO (a b : Option (Option Value)) : Bool := decide (a = b)
def gloB (K : Fg) (x : Str) (a : Addr) : Bool := eqO (PySem.W.nsIn K mainGlobals x) (some (some (.ref a)))
def freeB (K : Fg) (x : Str) : Bool := eqO (PySem.W.nsIn K mainGlobals x) (some none)
def conB (K : Fg) (x : Str) (v : V) : Bool := match PySem.W.nsIn K mainGlobals x with
  | some (some u) => He.relB v u
  | _ => false
def clsB (K : Fg) (C : Addr) : Bool := PySem.W.plainGet K C Str.empty && (PySem.W.hasDictIn K C && (PySem.W.plainOver K C && eqO (PySem.W.findIn K (.ref C) "__setattr__") (some (some (.builtin "object.__setattr__")))))
def noaB (K : Fg) (C : Addr) (x : Str) : Bool := eqO (PySem.W.findIn K (.ref C) x) (some none)
def metB (K : Fg) (C : Addr) (m : Str) (f : Addr) : Bool := eqO (PySem.W.findIn K (.ref C) m) (some (some (.ref f))) && (PySem.W.isFn K (.ref f) && PySem.W.keepIn K (.ref f))
def mkB (K : Fg) (C f : Addr) : Bool := PySem.W.makesIn K C && (eqO (PySem.W.findIn K (.ref C) "__init__") (some (some (.ref f))) && (PySem.W.isFn K (.ref f) && PySem.W.keepIn K (.ref C)))
def refB (K : Fg) (C : Addr) (nm : String) : Bool := (match PySem.W.findIn K (.ref C) (dunderR nm) with
  | some none => true
  | some (some (.ref _)) => true
  | _ => false) && ((PySem.W.findIn K (.type "int") (PySem.dunder nm)).isSome && (PySem.W.findIn K (.type "int") (dunderR nm)).isSome)
def noiB (K : Fg) (C : Addr) (nm : String) : Bool := (match PySem.W.clsIn K C with
  | some cd => decide (cd.mro = [.ref C, .type "object"])
  | none => false) && (eqO (PySem.W.findIn K (.ref C) (dunderI nm)) (some none) && eqO (PySem.W.findIn K (.type "object") (dunderI nm)) (some none))
def recB (K : Fg) (p : Addr) (T : String) (f : Addr) : Bool := match PySem.W.recIn K p T with
  | some (.ref g :: _) => decide (g = f)
  | _ => false
def propB (K : Fg) (C : Addr) (m : Str) (p f : Addr) : Bool := eqO (PySem.W.findIn K (.ref C) m) (some (some (.ref p))) && (eqO (PySem.W.specialIn K (.ref p) "__get__") (some (some (.builtin "property.__get__"))) && (decide (PySem.W.takesIn K (.ref p) = some true) && recB K p "property" f))
def cmB (K : Fg) (C : Addr) (m : Str) (p f : Addr) : Bool := (PySem.W.readsIn K C (.type "type") && eqO (PySem.W.specialIn K (.ref C) "__getattribute__") (some (some (.builtin "type.__getattribute__")))) &&
  ((match PySem.W.findCls K (.ref C) (.type "type") m with
    | some (.get g a b c) => decide (g = .builtin "classmethod.__get__") && (decide (a = .ref p) && (decide (b = .none) && decide (c = .ref C)))
    | _ => false) && (recB K p "classmethod" f && PySem.W.fnIn K f))
def neoB (K : Fg) (C : Addr) : Bool := eqO (PySem.W.findIn K (.ref C) "__ne__") (some (some (.builtin "object.__ne__"))) && decide (PySem.W.subIn K (.ref C) (.type "object") = some true)
/-- an own error -/
def excB (K : Fg) (C : Addr) : Bool := eqO (PySem.W.findIn K (.ref C) "__getattribute__") (some (some (.builtin "BaseException.__getattribute__"))) && (eqO (PySem.W.findIn K (.ref C) "__getattr__") (some none) && (decide (PySem.W.subIn K (.ref C) (.type "BaseException") = some true) && (PySem.W.hasDictIn K C &&
  (eqO (PySem.W.findIn K (.ref C) "__class__") (some (some (.builtin "object.__class__"))) && (eqO (PySem.W.specialIn K (.builtin "object.__class__") "__get__") (some (some (.builtin "getset_descriptor.__get__"))) && (decide (PySem.W.takesIn K (.builtin "object.__class__") = some true) && decide (PySem.W.mroIn K C (.type "object") = some true)))))))
def exmB (K : Fg) (C D : Addr) (b : Bool) : Bool := decide (PySem.W.exmOne K (.ref C) (.ref D) = some b)
def kitB (K : Fg) (t c : Value) (b : Bool) : Bool := decide (PySem.W.kitOne K t c = some b)
def kwB (K : Fg) (Dk : Addr) (x : Str) (i : Int) : Bool := match PySem.W.nsIn K Dk x with
  | some (some (.int j _)) => decide (j = i)
  | _ => false
def kwNB (K : Fg) (Dk : Addr) (x : Str) : Bool := match PySem.W.nsIn K Dk x with
  | some (some .none) => true
  | _ => false
def rlB : List V → List Value → Bool
  | [], [] => true
  | v :: vs, u :: us => He.relB v u && rlB vs us
  | _, _ => false
def tcB (K : Fg) (a : Addr) (vs : List V) : Bool := match K.lookup a with
  | some ⟨cls, _, .seq its _, _⟩ => decide (cls = .type "tuple") && (decide (its.size ≤ 1000) && rlB vs its.toList)
  | _ => false
def codB (K : Fg) (f cda : Addr) : Bool := match K.lookup f with
  | some ⟨_, _, .func fd, _⟩ => decide (fd.code = .ref cda)
  | _ => false
def exoB (K : Fg) (C : Addr) (newId : String) (bm : List Value) : Bool := match K.lookup C with
  | some ⟨.type t, _, .cls cd, sl⟩ => decide (t = "type") && (match cd.mro, sl.toList with
    | .ref C' :: bm', [_, _, _, _, some (.builtin n), _] => decide (C' = C) && (decide (n = newId) && (!cd.hasDel && (cd.hasDict && refsT bm bm')))
    | _, _ => false)
  | _ => false
def fileB (P : Program) (vs : Array Value) : Bool := match (vs[2]? : Option Value) with
  | some (.str f _) => (P.main.file : Str) == f
  | _ => false
def filB (P : Program) (K : Fg) (cda : Addr) : Bool := match K.lookup cda with
  | some ⟨_, _, .fields vs, _⟩ => fileB P vs
  | _ => false
def celB (K : Fg) (cc C : Addr) : Bool := match K.lookup cc with
  | some ⟨_, _, .cell (some (.ref D)), _⟩ => decide (D = C)
  | _ => false
def supB (P : Program) (b : Bs) (K : Fg) (C fI cda cc : Addr) (fld : Str) : Bool :=
  exoB K C b.newId b.bm && (eqO (PySem.W.findIn K (.ref C) "__setattr__") (some (some (.builtin "object.__setattr__"))) && (eqO (PySem.W.findIn K (.ref C) "__getattribute__") (some (some (.builtin "BaseException.__getattribute__"))) &&
  (eqO (PySem.W.findIn K (.ref C) "__getattr__") (some none) && (eqO (PySem.W.findIn K (.ref C) fld) (some none) && (eqO (PySem.W.findIn K (.ref C) "__init__") (some (some (.ref fI))) && (decide (PySem.W.typeIn K (.ref fI) = some (.type "function")) &&
  (PySem.W.keepIn K (.ref C) && (decide (PySem.W.subIn K (.ref C) (.type "BaseException") = some true) && (decide (PySem.W.subIn K (.ref C) (.type b.B) = some true) && (decide (PySem.W.mroIn K C (.ref C) = some true) && (decide (PySem.W.typeIn K (.ref C) = some (.type "type")) &&
  (PySem.W.hasDictIn K C && (decide (PySem.W.exmOne K (.ref C) (.ref C) = some true) && (eqO (PySem.W.nsIn K cStatics "thirdparty.any") (some none) && (eqO (PySem.W.ks_superIn K C C "__init__") (some (some (.builtin b.initId))) && (decide ((P.main.scope.names.lookup ("super" : Str)).isSome = false) &&
  (filB P K cda && celB K cc C)))))))))))))))))
def cdB (K : Fg) (C : Addr) : Bool := (PySem.W.clsIn K C).isSome
/-- the fifth look: what super() reads -/
def supOB (P : Program) (K : Fg) (C f2 cda cc : Addr) : Bool :=
  cdB K C && (decide (PySem.W.mroIn K C (.ref C) = some true) && (eqO (PySem.W.nsIn K cStatics "thirdparty.any") (some none) && (eqO (PySem.W.ks_superIn K C C "__init__") (some (some (.ref f2))) && (decide (PySem.W.typeIn K (.ref f2) = some (.type "function")) &&
  (PySem.W.fnIn K f2 && (decide ((P.main.scope.names.lookup ("super" : Str)).isSome = false) && (filB P K cda && celB K cc C)))))))
def dfnB (K : Fg) (dV : Value) (n : Nat) : Bool := match n, dV with
  | 0, .none => true
  | n + 1, .ref T => (match K.lookup T with
    | some ⟨_, _, .seq its _, _⟩ => decide (its.size = n + 1)
    | _ => false)
  | _, _ => false
def fnBd (K : Fg) (a : Addr) (qual : Str) (clo : List (Str × Addr)) (cda : Addr) (nd : Nat) : Bool := match K.lookup a with
  | some ⟨_, _, .func fd, _⟩ => decide (fd.closure = clo) && (decide (fd.code = .ref cda) && (PySem.W.codeIn K fd.code qual && dfnB K fd.defaults nd))
  | _ => false
def gdL : List DictEntry → List (Str × V) → Bool
  | [], [] => true
  | e :: r, (k, v) :: q => (match e.key with
    | .str x _ => decide (x = k)
    | _ => false) && (He.relB v e.val && gdL r q)
  | _, _ => false
def gdB (K : Fg) (a : Addr) (kvs : List (Str × V)) : Bool := match K.lookup a with
  | some ⟨_, _, .dict es _, _⟩ => gdL es.toList kvs
  | _ => false
def gkL : List DictEntry → List Str → Bool
  | [], [] => true
  | e :: r, k :: q => (match e.key with
    | .str x _ => decide (x = k)
    | _ => false) && gkL r q
  | _, _ => false
def gkB (K : Fg) (a : Addr) (ks : List Str) : Bool := match K.lookup a with
  | some ⟨_, _, .dict es _, _⟩ => gkL es.toList ks
  | _ => false
def dftB (K : Fg) (a T2 : Addr) : Bool := match K.lookup a with
  | some ⟨_, _, .func fd, _⟩ => (match fd.defaults with
    | .ref T => (match K.lookup T with
      | some ⟨_, _, .seq its _, _⟩ => decide (its = #[.ref T2])
      | _ => false)
    | _ => false) && (match K.lookup T2 with
    | some ⟨c, _, .seq its _, _⟩ => decide (c = .type "tuple") && decide (its = #[])
    | _ => false)
  | _ => false
end
end HK
end Eb

namespace K31
open PySem PySem.Spec PyProof.Rows L2 Eb
def topS (i : Nat) : Stmt := PySem.Challenge.pw_everybase_k31_sets_of_bases_mixed.main.body.getD i (.Pass ⟨0, 0, 0, 0⟩)
abbrev s__wall : Stmt := topS 0
abbrev s_is_integer : Stmt := topS 6
abbrev s_is_base : Stmt := topS 7
abbrev s_common_of : Stmt := topS 9
abbrev s_divisors_of : Stmt := topS 10
abbrev s_least_period : Stmt := topS 11
abbrev s_settled_bases : Stmt := topS 12
abbrev s_is_mixed : Stmt := topS 13
abbrev s_mixed : Stmt := topS 14
abbrev s_has_base : Stmt := topS 15
abbrev s_is_empty : Stmt := topS 16
abbrev s_Bases_init : Stmt := inClass (topS 17) 0
abbrev s_Bases_none : Stmt := inClass (topS 17) 1
abbrev s_Bases_every : Stmt := inClass (topS 17) 2
abbrev s_Bases_of : Stmt := inClass (topS 17) 3
abbrev s_Bases_rest : Stmt := inClass (topS 17) 4
abbrev s_Bases_upward : Stmt := inClass (topS 17) 5
abbrev s_Bases_and : Stmt := inClass (topS 17) 7
abbrev s_Bases_or : Stmt := inClass (topS 17) 8
abbrev s_Bases_sub : Stmt := inClass (topS 17) 9
abbrev s_Bases_xor : Stmt := inClass (topS 17) 10
abbrev s_Bases_invert : Stmt := inClass (topS 17) 11
abbrev s_Bases_eq : Stmt := inClass (topS 17) 13
abbrev s_Bases_str : Stmt := inClass (topS 17) 23
abbrev s__law_deal : Stmt := topS 19
abbrev s__law_draw : Stmt := topS 20
abbrev s__law_pick : Stmt := topS 21
abbrev s__law_atom : Stmt := topS 22
abbrev s__law_model : Stmt := topS 23
abbrev s__law_in : Stmt := topS 24
abbrev s__law_span : Stmt := topS 25
abbrev s__law_told : Stmt := topS 26
abbrev s__law_set_of : Stmt := topS 27
abbrev s__law_is : Stmt := topS 28
abbrev s__law_great : Stmt := topS 29
abbrev s__law_great_right : Stmt := topS 30
abbrev s_law : Stmt := topS 31
end K31

namespace K31
open PySem PySem.Spec PyProof.Rows L2 Eb
def fc0 (K : PySem.W.Frag) : List Bool := [HK.fnB K 53 "is_integer" [] .none .none,
  HK.gloB K "is_integer" 53,
  HK.fnB K 60 "is_base" [] .none .none,
  HK.gloB K "is_base" 60,
  HK.fnB K 67 "common_of" [] .none .none,
  HK.gloB K "common_of" 67,
  HK.fnB K 72 "divisors_of" [] .none .none,
  HK.gloB K "divisors_of" 72,
  HK.fnB K 79 "least_period" [] .none .none,
  HK.gloB K "least_period" 79,
  HK.fnB K 84 "settled_bases" [] .none .none,
  HK.gloB K "settled_bases" 84,
  HK.fnB K 91 "is_mixed" [] .none .none,
  HK.gloB K "is_mixed" 91,
  HK.fnB K 96 "mixed" [] .none .none,
  HK.gloB K "mixed" 96,
  HK.fnB K 103 "has_base" [] .none .none,
  HK.gloB K "has_base" 103,
  HK.fnB K 124 "Bases.__init__" [] .none .none,
  HK.fnB K 131 "Bases.none" [] .none .none,
  HK.fnB K 141 "Bases.every" [] .none .none,
  HK.fnB K 149 "Bases.of" [] .none .none,
  HK.fnB K 157 "Bases.rest" [] .none .none,
  HK.fnB K 167 "Bases.upward" [] .none .none,
  HK.fnB K 184 "Bases.__and__" [] .none .none,
  HK.fnB K 191 "Bases.__or__" [] .none .none,
  HK.fnB K 198 "Bases.__sub__" [] .none .none,
  HK.fnB K 205 "Bases.__xor__" [] .none .none,
  HK.fnB K 212 "Bases.__invert__" [] .none .none,
  HK.fnB K 226 "Bases.__eq__" [] .none .none,
  HK.fnB K 292 "Bases.__str__" [] .none .none,
  HK.fnB K 304 "_law_deal" [] .none .none,
  HK.gloB K "_law_deal" 304,
  HK.fnB K 311 "_law_draw" [] .none .none,
  HK.gloB K "_law_draw" 311,
  HK.fnB K 318 "_law_pick" [] .none .none,
  HK.gloB K "_law_pick" 318,
  HK.fnB K 323 "_law_atom" [] .none .none,
  HK.gloB K "_law_atom" 323,
  HK.fnB K 330 "_law_model" [] .none .none]
def fc1 (K : PySem.W.Frag) : List Bool := [HK.gloB K "_law_model" 330,
  HK.fnB K 337 "_law_in" [] .none .none,
  HK.gloB K "_law_in" 337,
  HK.fnB K 344 "_law_span" [] .none .none,
  HK.gloB K "_law_span" 344,
  HK.fnB K 349 "_law_told" [] .none .none,
  HK.gloB K "_law_told" 349,
  HK.fnB K 356 "_law_set_of" [] .none .none,
  HK.gloB K "_law_set_of" 356,
  HK.fnB K 363 "_law_is" [] .none .none,
  HK.gloB K "_law_is" 363,
  HK.fnB K 368 "_law_great" [] .none .none,
  HK.gloB K "_law_great" 368,
  HK.fnB K 375 "_law_great_right" [] .none .none,
  HK.gloB K "_law_great_right" 375,
  HK.fnB K 382 "law" [] .none .none,
  HK.freeB K "isinstance",
  HK.freeB K "int",
  HK.freeB K "bool",
  HK.freeB K "range",
  HK.freeB K "len",
  HK.freeB K "list",
  HK.freeB K "enumerate",
  HK.freeB K "tuple",
  HK.freeB K "max",
  HK.freeB K "sorted",
  HK.freeB K "set",
  HK.freeB K "repr",
  HK.freeB K "str",
  HK.conB K "LEAST_BASE" (.int 2),
  HK.gloB K "Bases" 295,
  HK.clsB K 295,
  HK.mkB K 295 124,
  PySem.W.selfFirst K 295,
  PySem.W.notFirst K 295 (.ref 295),
  decide (PySem.W.subIn K (.type "int") (.ref 295) = some false),
  HK.eqO (PySem.W.findIn K (.ref 295) "__class__") (some (some (.builtin "object.__class__"))),
  HK.eqO (PySem.W.specialIn K (.builtin "object.__class__") "__get__") (some (some (.builtin "getset_descriptor.__get__"))),
  decide (PySem.W.takesIn K (.builtin "object.__class__") = some true),
  decide (PySem.W.mroIn K 295 (.type "object") = some true)]
def fc2 (K : PySem.W.Frag) : List Bool := [HK.kitB K (.ref 295) (.type "int") false,
  HK.kitB K (.ref 295) (.type "bool") false,
  HK.kitB K (.type "NoneType") (.ref 295) false,
  HK.kitB K (.type "int") (.ref 295) false,
  HK.kitB K (.type "bool") (.ref 295) false,
  HK.kitB K (.type "str") (.ref 295) false,
  HK.kitB K (.type "list") (.ref 295) false,
  HK.kitB K (.type "tuple") (.ref 295) false,
  HK.kitB K (.ref 295) (.ref 295) true,
  HK.noaB K 295 "start",
  HK.noaB K 295 "period",
  HK.noaB K 295 "rests",
  HK.noaB K 295 "lone",
  HK.metB K 295 "__and__" 184,
  HK.refB K 295 "and",
  HK.metB K 295 "__or__" 191,
  HK.refB K 295 "or",
  HK.metB K 295 "__sub__" 198,
  HK.refB K 295 "sub",
  HK.metB K 295 "__xor__" 205,
  HK.refB K 295 "xor",
  HK.metB K 295 "__invert__" 212,
  HK.metB K 295 "__eq__" 226,
  HK.metB K 295 "__str__" 292,
  decide (PySem.W.subIn K (.ref 295) (.type "NoneType") = some false),
  decide (PySem.W.subIn K (.ref 295) (.type "str") = some false),
  decide (PySem.W.subIn K (.ref 295) (.type "tuple") = some false),
  HK.noiB K 295 "or",
  HK.noiB K 295 "sub",
  HK.noiB K 295 "and",
  HK.noiB K 295 "xor",
  HK.cmB K 295 "none" 133 131,
  HK.cmB K 295 "every" 143 141,
  HK.cmB K 295 "of" 151 149,
  HK.cmB K 295 "rest" 159 157,
  HK.cmB K 295 "upward" 169 167,
  HK.gloB K "law" 382]
def chk (K : PySem.W.Frag) : Bool := (fc0 K).all id && ((fc1 K).all id && ((fc2 K).all id))
def tabs : List HK.Tab := []
def dqs : List HK.Dq := [⟨53, "is_integer", "is_integer", s_is_integer⟩,
  ⟨60, "is_base", "is_base", s_is_base⟩,
  ⟨67, "common_of", "common_of", s_common_of⟩,
  ⟨72, "divisors_of", "divisors_of", s_divisors_of⟩,
  ⟨79, "least_period", "least_period", s_least_period⟩,
  ⟨84, "settled_bases", "settled_bases", s_settled_bases⟩,
  ⟨91, "is_mixed", "is_mixed", s_is_mixed⟩,
  ⟨96, "mixed", "mixed", s_mixed⟩,
  ⟨103, "has_base", "has_base", s_has_base⟩,
  ⟨124, "__init__", "Bases.__init__", s_Bases_init⟩,
  ⟨131, "none", "Bases.none", s_Bases_none⟩,
  ⟨141, "every", "Bases.every", s_Bases_every⟩,
  ⟨149, "of", "Bases.of", s_Bases_of⟩,
  ⟨157, "rest", "Bases.rest", s_Bases_rest⟩,
  ⟨167, "upward", "Bases.upward", s_Bases_upward⟩,
  ⟨184, "__and__", "Bases.__and__", s_Bases_and⟩,
  ⟨191, "__or__", "Bases.__or__", s_Bases_or⟩,
  ⟨198, "__sub__", "Bases.__sub__", s_Bases_sub⟩,
  ⟨205, "__xor__", "Bases.__xor__", s_Bases_xor⟩,
  ⟨212, "__invert__", "Bases.__invert__", s_Bases_invert⟩,
  ⟨226, "__eq__", "Bases.__eq__", s_Bases_eq⟩,
  ⟨292, "__str__", "Bases.__str__", s_Bases_str⟩,
  ⟨304, "_law_deal", "_law_deal", s__law_deal⟩,
  ⟨311, "_law_draw", "_law_draw", s__law_draw⟩,
  ⟨318, "_law_pick", "_law_pick", s__law_pick⟩,
  ⟨323, "_law_atom", "_law_atom", s__law_atom⟩,
  ⟨330, "_law_model", "_law_model", s__law_model⟩,
  ⟨337, "_law_in", "_law_in", s__law_in⟩,
  ⟨344, "_law_span", "_law_span", s__law_span⟩,
  ⟨349, "_law_told", "_law_told", s__law_told⟩,
  ⟨356, "_law_set_of", "_law_set_of", s__law_set_of⟩,
  ⟨363, "_law_is", "_law_is", s__law_is⟩,
  ⟨368, "_law_great", "_law_great", s__law_great⟩,
  ⟨375, "_law_great_right", "_law_great_right", s__law_great_right⟩,
  ⟨382, "law", "law", s_law⟩]
def ads : List Nat := ([1, 2, 4, 5, 6, 7, 10, 11, 14, 15, 17, 18, 22, 24, 25, 28, 29, 35, 37, 38, 41, 42, 47, 49, 50, 54, 56, 57, 61, 63, 64, 68, 73, 75, 76, 80, 85, 87, 88, 92, 97, 99, 100, 104, 106, 107, 111, 113, 114, 117, 118, 120, 121, 125, 127, 128, 132, 134, 135, 137] : List Nat) ++ ([138, 142, 144, 145, 150, 152, 153, 158, 160, 161, 163, 164, 168, 170, 171, 173, 174, 178, 180, 181, 185, 187, 188, 192, 194, 195, 199, 201, 202, 206, 208, 209, 213, 215, 216, 220, 222, 223, 227, 229, 230, 234, 236, 237, 241, 243, 244, 248, 250, 251, 255, 260, 262, 263, 268, 270, 271, 276, 281, 283] : List Nat) ++ ([284, 288, 293, 300, 305, 307, 308, 312, 314, 315, 319, 324, 326, 327, 331, 333, 334, 338, 340, 341, 345, 350, 352, 353, 357, 359, 360, 364, 369, 371, 372, 376, 378, 379, 105, 109, 112, 115, 116, 119, 12, 126, 13, 133, 136, 143, 146, 151, 154, 159, 16, 162, 169, 172, 176, 179, 186, 193, 20, 200] : List Nat) ++ ([207, 214, 218, 221, 228, 23, 232, 235, 239, 242, 246, 249, 253, 256, 258, 26, 261, 265, 267, 269, 27, 273, 275, 277, 279, 282, 286, 289, 296, 297, 298, 299, 301, 306, 313, 32, 320, 325, 33, 332, 339, 34, 346, 351, 358, 36, 365, 370, 377, 39, 40, 45, 46, 48, 55, 62, 69, 74, 8, 81] : List Nat) ++ ([86, 9, 93, 98, 101, 108, 110, 122, 129, 139, 147, 155, 165, 175, 177, 182, 189, 19, 196, 203, 21, 210, 217, 219, 224, 231, 233, 238, 240, 245, 247, 252, 254, 257, 259, 264, 266, 272, 274, 278, 280, 285, 287, 290, 302, 309, 316, 321, 328, 335, 342, 347, 354, 361, 366, 373, 380, 51, 58, 65] : List Nat) ++ ([70, 77, 82, 89, 94, 52, 53, 59, 60, 66, 67, 71, 72, 78, 79, 83, 84, 90, 91, 95, 96, 102, 103, 123, 124, 130, 131, 140, 141, 148, 149, 156, 157, 166, 167, 183, 184, 190, 191, 197, 198, 204, 205, 211, 212, 225, 226, 291, 292, 303, 304, 310, 311, 317, 318, 322, 323, 329, 330, 336] : List Nat) ++ ([337, 343, 344, 348, 349, 355, 356, 362, 363, 367, 368, 374, 375, 381, 382, 30, 43, 294, 31, 44, 295, 0, 3] : List Nat)
def loose : List PySem.Str := (["_wall", "FigureError", "InvalidBase", "LEAST_BASE", "is_integer", "is_base", "common_of", "divisors_of", "least_period", "settled_bases", "is_mixed", "mixed", "has_base", "is_empty", "Bases", "_law_deal", "_law_draw", "_law_pick", "_law_atom", "_law_model", "_law_in", "_law_span", "_law_told", "_law_set_of", "_law_is", "_law_great", "_law_great_right"] : List PySem.Str)
abbrev Ro : PySem.W.OpenRow := PySem.W.OpenLaw.row PySem.Challenge.rw_everybase_k31_sets_of_bases_mixed
abbrev qv : Program := PySem.W.view Ro.prog [31]
theorem run (w : World) : HandSHeadRun.RunEq Ro qv (HK.hook ads chk dqs tabs) (HK.ob ads chk dqs tabs) 3369 loose w := by
  intro os
  kernel_rfl
end K31

/-! ## own layer: rules, heaps, draws -/
namespace Eb
open PySem PySem.Spec PyProof.Rows L2
theorem bb_int : bootBuiltins "int" = some (.type "int") := by decide +kernel
theorem bb_bool : bootBuiltins "bool" = some (.type "bool") := by decide +kernel
theorem bb_str : bootBuiltins "str" = some (.type "str") := by decide +kernel
theorem bb_list : bootBuiltins "list" = some (.type "list") := by decide +kernel
theorem bb_tuple : bootBuiltins "tuple" = some (.type "tuple") := by decide +kernel
theorem bb_range : bootBuiltins "range" = some (.type "range") := by decide +kernel
theorem bb_set : bootBuiltins "set" = some (.type "set") := by decide +kernel
theorem bb_len : bootBuiltins "len" = some (.builtin "len") := by decide +kernel
theorem bb_sum : bootBuiltins "sum" = some (.builtin "sum") := by decide +kernel
theorem bb_min : bootBuiltins "min" = some (.builtin "min") := by decide +kernel
theorem bb_max : bootBuiltins "max" = some (.builtin "max") := by decide +kernel
theorem bb_abs : bootBuiltins "abs" = some (.builtin "abs") := by decide +kernel
theorem bb_repr : bootBuiltins "repr" = some (.builtin "repr") := by decide +kernel
theorem bb_sorted : bootBuiltins "sorted" = some (.builtin "sorted") := by decide +kernel
theorem bb_all : bootBuiltins "all" = some (.builtin "all") := by decide +kernel
theorem bb_isinstance : bootBuiltins "isinstance" = some (.builtin "isinstance") := by decide +kernel

section
variable {X : Cx}
/-- sum(t), t a tuple of ints -/
def rSumT (K : PySem.W.Frag) : List V → Hp → VK → Prop := fun vs H Q => ∃ (a : Addr) (ns : List Int), vs = [V.ref a] ∧ SqT K H a (ns.map V.int) ∧ Q (.int ns.sum) H
theorem cr_sumT (hc : X.calm = true) : CallR X (.builtin "sum") (rSumT X.K) := by
  intro pins s σ H vs us Q I r h
  obtain ⟨a, ns, rfl, hs, q⟩ := h
  obtain ⟨its, rv, ht, _⟩ := I.tuple hs
  rw [Vals.ref1 r]
  have hi := rv.ints
  obtain ⟨xs, e⟩ := hi.allInts.items
  have hn : numsOf (intItems xs).toList = ns := by
    rw [← e]
    exact hi.numsOf
  rw [nums_intItems] at hn
  have ht' : s.heap.IsTuple a (intItems xs) := by
    rw [← e]
    exact ht
  refine PySem.W.ktm_sumG (I.ok.hd hc) ht' fun h' tk t' hk => ?_
  rw [preSum_eq, List.take_of_length_le (by simp), hn]
  exact ⟨.int _, H, I.kept hk, ⟨_, rfl⟩, q⟩
end

/-! ### heaps -/
theorem same_new {H : Hp} {p : Addr} {o : HO} (h : H p = none) : Same H (upd H p o) := fun b x e => by
  rw [upd_ne (ne_of_none e h)]
  exact e
theorem same_mut {H H' : Hp} {p : Addr} {o : HO} (e : Same H H') (h : H p = none) : Same H (upd H' p o) := fun b x hb => by
  rw [upd_ne (ne_of_none hb h)]
  exact e b x hb
theorem Same_seqT {K : PySem.W.Frag} {H H' : Hp} {a : Addr} {xs : List V} (e : Same H H') (h : SqT K H a xs) : SqT K H' a xs := by
  rcases h with (h | ⟨o, h⟩) | h
  · exact .inl (.inl (e _ _ h))
  · exact .inl (.inr ⟨o, e _ _ h⟩)
  · exact .inr h
/-- all but the objects at M stand as they stood -/
def Grow (M : List Addr) (H H' : Hp) : Prop := ∀ b o, b ∉ M → H b = some o → H' b = some o
theorem Grow.refl (M : List Addr) (H : Hp) : Grow M H H := fun _ _ _ h => h
theorem Grow.trans {M : List Addr} {H H1 H2 : Hp} (a : Grow M H H1) (b : Grow M H1 H2) : Grow M H H2 := fun c o n h => b c o n (a c o n h)
theorem Grow.of {M : List Addr} {H H' : Hp} (e : Same H H') : Grow M H H' := fun c o _ h => e c o h
theorem Grow.new {M : List Addr} {H H' : Hp} {p : Addr} {o : HO} (g : Grow M H H') (h : H p = none) : Grow M H (upd H' p o) := fun b x n hb => by
  rw [upd_ne (ne_of_none hb h)]
  exact g b x n hb
theorem Grow.at {M : List Addr} {H H' : Hp} {p : Addr} {o : HO} (g : Grow M H H') (h : p ∈ M) : Grow M H (upd H' p o) := fun b x n hb => by
  rw [upd_ne (show b ≠ p from fun e => n (by rw [e]; exact h))]
  exact g b x n hb
theorem Grow.none {M : List Addr} {H H' : Hp} {p : Addr} (g : Grow M H H') (hM : ∀ b ∈ M, H' b ≠ none) (h : H' p = none) : H p = none := by
  cases q : H p with
  | none => rfl
  | some o =>
    by_cases hm : p ∈ M
    · exact absurd h (hM p hm)
    · rw [g p o hm q] at h
      cases h
theorem Grow.seqL {M : List Addr} {K : PySem.W.Frag} {H H' : Hp} {a : Addr} {xs : List V} (g : Grow M H H') (n : a ∉ M) (h : SqL K H a xs) : SqL K H' a xs := by
  rcases h with (h | ⟨o, h⟩) | h
  · exact .inl (.inl (g _ _ n h))
  · exact .inl (.inr ⟨o, g _ _ n h⟩)
  · exact .inr h
theorem Grow.seqT {M : List Addr} {K : PySem.W.Frag} {H H' : Hp} {a : Addr} {xs : List V} (g : Grow M H H') (n : a ∉ M) (h : SqT K H a xs) : SqT K H' a xs := by
  rcases h with (h | ⟨o, h⟩) | h
  · exact .inl (.inl (g _ _ n h))
  · exact .inl (.inr ⟨o, g _ _ n h⟩)
  · exact .inr h
theorem sqL_of {K : PySem.W.Frag} {H : Hp} {a : Addr} {xs : List V} (h : H a = some (.lst xs)) : SqL K H a xs := .inl (.inl h)
theorem sqT_of {K : PySem.W.Frag} {H : Hp} {a : Addr} {xs : List V} (h : H a = some (.tup xs)) : SqT K H a xs := .inl (.inl h)
theorem sqL_new {K : PySem.W.Frag} {H : Hp} {a : Addr} {xs : List V} : SqL K (upd H a (.lst xs)) a xs := .inl (.inl upd_same)
theorem sqT_new {K : PySem.W.Frag} {H : Hp} {a : Addr} {xs : List V} : SqT K (upd H a (.tup xs)) a xs := .inl (.inl upd_same)
theorem sz {n : Nat} (h : n ≤ 100000) : n ≤ sizeLine := Nat.le_trans h (by decide)
theorem szr {n : Nat} (h : Nat.ble n 100000 = true) : n ≤ sizeLine := sz (Nat.le_of_ble_eq_true h)
theorem szl {n : Nat} (h : n < 100000) : n < sizeLine := Nat.lt_of_lt_of_le h (by decide)

/-! ### loops -/
theorem whl {c : TT} {tb : TS} {D : Ends} {σ : L2.St} {H : Hp} (W : Nat → L2.St → Hp → Prop) (m : Nat) (h0 : W m σ H)
    (hs : ∀ m σ H, W m σ H → c σ H fun b H1 => if b = true then ∃ N : L2.St → Hp → Prop, (∀ σ' H', N σ' H' → ∃ m', m' < m ∧ W m' σ' H') ∧ tb { D with nx := N, ct := N, bk := D.nx } σ H1 else D.nx σ H1) : tWhile c tb D σ H :=
  ⟨W, ⟨m, h0⟩, hs⟩
/-- the turn of a while whose test holds: the wished state is W at a smaller measure -/
theorem turn_of {tb : TS} {D : Ends} {σ : L2.St} {H : Hp} {W : Nat → L2.St → Hp → Prop} {m : Nat}
    (h : tb { D with nx := fun σ' H' => ∃ m', m' < m ∧ W m' σ' H', ct := fun σ' H' => ∃ m', m' < m ∧ W m' σ' H', bk := D.nx } σ H) :
    ∃ N : L2.St → Hp → Prop, (∀ σ' H', N σ' H' → ∃ m', m' < m ∧ W m' σ' H') ∧ tb { D with nx := N, ct := N, bk := D.nx } σ H := ⟨_, fun _ _ z => z, h⟩

/-- ways join: a test whose answer is known behind its ways -/
theorem by_ans {t : TT} {σ : L2.St} {H : Hp} {Q : Bool → Hp → Prop} (b : Bool) (h : ∀ Q' : Bool → Hp → Prop, (∀ H1, Same H H1 → Q' b H1) → t σ H Q') (k : ∀ H1, Same H H1 → Q b H1) : t σ H Q := h Q k
/-- ways join behind a statement that goes on -/
theorem by_st {t u : TS} {D : Ends} {σ : L2.St} {H : Hp} (J : L2.St → Hp → Prop) (h : ∀ D' : Ends, D'.rt = D.rt → (∀ σ' H', J σ' H' → D'.nx σ' H') → t D' σ H) (k : ∀ σ' H', J σ' H' → u D σ' H') : tSeq t u D σ H :=
  h { D with nx := u D } rfl k
/-- .. of an if whose test is known to fail, to hold -/
theorem by_ifF {c : TT} {t u r : TS} {D : Ends} {σ : L2.St} {H : Hp} (h : ∀ Q' : Bool → Hp → Prop, (∀ H1, Same H H1 → Q' false H1) → c σ H Q') (k : ∀ H1, Same H H1 → u { D with nx := r D } σ H1) : tSeq (tIfS c t u) r D σ H :=
  h _ fun H1 s1 => iteF (k H1 s1)
theorem by_ifT {c : TT} {t u r : TS} {D : Ends} {σ : L2.St} {H : Hp} (h : ∀ Q' : Bool → Hp → Prop, (∀ H1, Same H H1 → Q' true H1) → c σ H Q') (k : ∀ H1, Same H H1 → t { D with nx := r D } σ H1) : tSeq (tIfS c t u) r D σ H :=
  h _ fun H1 s1 => iteT (k H1 s1)
/-- ways join behind an expression -/
theorem by_te {t : TE} {σ : L2.St} {H : Hp} {Q : VK} (J : V → Hp → Prop) (h : ∀ Q' : VK, (∀ v H1, J v H1 → Q' v H1) → t σ H Q') (k : ∀ v H1, J v H1 → Q v H1) : t σ H Q := h Q k
/-- .. that is given to a name -/
theorem by_set {te : TE} {i : Nat} {u : TS} {D : Ends} {σ : L2.St} {H : Hp} (J : V → Hp → Prop) (h : ∀ Q' : VK, (∀ v H1, J v H1 → Q' v H1) → te σ H Q') (k : ∀ v H1, J v H1 → u D (σ.set i (some v)) H1) : tSeq (tAsg te (gName i)) u D σ H := h _ k
theorem Grow.same {M : List Addr} {H H1 H2 : Hp} (g : Grow M H H1) (e : Same H1 H2) : Grow M H H2 := g.trans (Grow.of e)

/-! ### data -/
theorem dp_ints {K : PySem.W.Frag} {H : Hp} : ∀ xs : List Int, DpAll K H (xs.map V.int) (xs.map PyData.int)
  | [] => .nil
  | x :: r => .cons (.int x) (dp_ints r)
theorem dp_list {K : PySem.W.Frag} {H : Hp} {a : Addr} {xs : List Int} (h : SqL K H a (xs.map V.int)) : Dp K H (.ref a) (.list (xs.map PyData.int)) := .lst h (dp_ints xs)
theorem dp_tuple {K : PySem.W.Frag} {H : Hp} {a : Addr} {xs : List Int} (h : SqT K H a (xs.map V.int)) : Dp K H (.ref a) (.tuple (xs.map PyData.int)) := .tup h (dp_ints xs)
theorem lay_ints : ∀ xs : List Int, PyData.canLayAll0 (xs.map PyData.int) = true
  | [] => by simp [PyData.canLayAll0]
  | x :: r => by simp [PyData.canLayAll0, PyData.canLay0, lay_ints r]
theorem depth_ints : ∀ xs : List Int, PyData.depthAll (xs.map PyData.int) = 0
  | [] => by simp [PyData.depthAll]
  | x :: r => by simp [PyData.depthAll, PyData.depth, depth_ints r]
theorem shaped_list (xs : List Int) : SeqAt.shaped (.list (xs.map PyData.int)) = true := by
  unfold SeqAt.shaped
  simp [PyData.canLay0, PyData.depth, lay_ints, depth_ints]
theorem shaped_tuple (xs : List Int) : SeqAt.shaped (.tuple (xs.map PyData.int)) = true := by
  unfold SeqAt.shaped
  simp [PyData.canLay0, PyData.depth, lay_ints, depth_ints]
theorem eqv_ints : ∀ xs ys : List Int, PyData.eqvAll (xs.map PyData.int) (ys.map PyData.int) = decide (xs = ys)
  | [], [] => by simp [PyData.eqvAll]
  | [], _ :: _ => by simp [PyData.eqvAll]
  | _ :: _, [] => by simp [PyData.eqvAll]
  | x :: r, y :: q => by
    simp only [List.map_cons, PyData.eqvAll, PyData.eqv, eqv_ints r q]
    by_cases h : x = y
    · subst h; simp
    · simp [h]
section
variable {X : Cx}
def rEqL (K : PySem.W.Frag) (neg : Bool) : R2 := fun x y H Q => ∃ (a b : Addr) (xs ys : List Int), x = .ref a ∧ y = .ref b ∧ SqL K H a (xs.map V.int) ∧ SqL K H b (ys.map V.int) ∧ Q (.bl (if neg then !decide (xs = ys) else decide (xs = ys))) H
def rEqT (K : PySem.W.Frag) (neg : Bool) : R2 := fun x y H Q => ∃ (a b : Addr) (xs ys : List Int), x = .ref a ∧ y = .ref b ∧ SqT K H a (xs.map V.int) ∧ SqT K H b (ys.map V.int) ∧ Q (.bl (if neg then !decide (xs = ys) else decide (xs = ys))) H
theorem op_eqL (hu : X.A.units + 64 < cLine) : OpR X (compareOp .Eq) (rEqL X.K false) := by
  intro pins s σ H x y v u Q I rx ry h
  obtain ⟨a, b, xs, ys, rfl, rfl, ha, hb, q⟩ := h
  exact op_eqD hu pins s σ H _ _ v u Q I rx ry ⟨_, _, dp_list ha, dp_list hb, shaped_list _, shaped_list _, by simp only [PyData.eqv, eqv_ints]; exact q⟩
theorem op_neL (hu : X.A.units + 64 < cLine) : OpR X (compareOp .NotEq) (rEqL X.K true) := by
  intro pins s σ H x y v u Q I rx ry h
  obtain ⟨a, b, xs, ys, rfl, rfl, ha, hb, q⟩ := h
  exact op_neD hu pins s σ H _ _ v u Q I rx ry ⟨_, _, dp_list ha, dp_list hb, shaped_list _, shaped_list _, by simp only [PyData.eqv, eqv_ints]; exact q⟩
theorem op_eqT (hu : X.A.units + 64 < cLine) : OpR X (compareOp .Eq) (rEqT X.K false) := by
  intro pins s σ H x y v u Q I rx ry h
  obtain ⟨a, b, xs, ys, rfl, rfl, ha, hb, q⟩ := h
  exact op_eqD hu pins s σ H _ _ v u Q I rx ry ⟨_, _, dp_tuple ha, dp_tuple hb, shaped_tuple _, shaped_tuple _, by simp only [PyData.eqv, eqv_ints]; exact q⟩
theorem op_neT (hu : X.A.units + 64 < cLine) : OpR X (compareOp .NotEq) (rEqT X.K true) := by
  intro pins s σ H x y v u Q I rx ry h
  obtain ⟨a, b, xs, ys, rfl, rfl, ha, hb, q⟩ := h
  exact op_neD hu pins s σ H _ _ v u Q I rx ry ⟨_, _, dp_tuple ha, dp_tuple hb, shaped_tuple _, shaped_tuple _, by simp only [PyData.eqv, eqv_ints]; exact q⟩
end

/-! ### sizes -/
def Sm (n : Int) : Prop := n.natAbs < 2 ^ 1900
theorem Sm.log {n : Int} (h : Sm n) : n.natAbs.log2 < 1900 := PySem.Flt.log2_lt_of (by decide) h
theorem Sm.le {n m : Int} (h : Sm m) (h0 : 0 ≤ n) (h1 : n ≤ m) : Sm n := Nat.lt_of_le_of_lt (by omega) h
theorem sm_of {n : Int} (h0 : 0 ≤ n) (h1 : n ≤ 10 ^ 61) : Sm n := Sm.le (m := 10 ^ 61) (by unfold Sm; decide +kernel) h0 h1
theorem sm_big {n : Int} (h0 : 0 ≤ n) (h1 : n ≤ 10 ^ 250) : Sm n := Sm.le (m := 10 ^ 250) (by unfold Sm; decide +kernel) h0 h1
/-- // where the divisor or the dividend is no giant -/
def CDivX (i j : Int) : Prop := 0 < j ∧ (i.natAbs.log2 < 13500 ∨ j.natAbs.log2 < 9000)
theorem divX_ok {i j : Int} (h : CDivX i j) : Builtin.divisionGoesByPylong i j = false := by
  rcases h.2 with h1 | h1
  · have ki : (if i == 0 then 0 else i.natAbs.log2 / 30 + 1) ≤ 450 := by
      split <;> omega
    show (decide ((if j == 0 then 0 else j.natAbs.log2 / 30 + 1) > 300) && decide ((if i == 0 then 0 else i.natAbs.log2 / 30 + 1) > (if j == 0 then 0 else j.natAbs.log2 / 30 + 1) + 150)) = false
    by_cases c : (if j == 0 then 0 else j.natAbs.log2 / 30 + 1) > 300
    · rw [decide_eq_false (show ¬ ((if i == 0 then 0 else i.natAbs.log2 / 30 + 1) > (if j == 0 then 0 else j.natAbs.log2 / 30 + 1) + 150) by omega), Bool.and_false]
    · rw [decide_eq_false c, Bool.false_and]
  · exact PyProof.noPylong_of_log2 h1
theorem op_fdivX {X : Cx} : OpR X (binaryOp .FloorDiv) (rI CDivX fun i j => .int (i / j)) := opI fun i j _ _ _ _ _ hc q =>
  floordiv_int (show j ≠ 0 by have := hc.1; omega) (by rw [Int.fdiv_eq_ediv_of_nonneg i (show 0 ≤ j by have := hc.1; omega)]; exact q) (.inl (divX_ok hc))
theorem divW {i j : Int} (h : 0 < j) (s : Sm j) : CDivX i j := ⟨h, .inr (Nat.lt_trans s.log (by decide))⟩
theorem divS {i j : Int} (h : 0 < j) (s : Sm i) : CDivX i j := ⟨h, .inl (Nat.lt_trans s.log (by decide))⟩
theorem mulW {i j : Int} (h : Sm i) (s : Sm j) : L2.CMulW i j := by
  have a := h.log
  have b := s.log
  unfold L2.CMulW
  omega

/-- powers of numbers that are no giants -/
def CPowX (i j : Int) : Prop := 0 ≤ j ∧ (Builtin.Int.intBits i : Int) * j ≤ 2 ^ 27
theorem op_powX {X : Cx} : OpR X (binaryOp .Pow) (rI CPowX fun i j => .int (i ^ j.toNat)) := opI fun _ _ _ _ _ _ _ hc q => pow_int hc.1 hc.2 q
theorem powX {i j : Int} (s : Sm i) (h0 : 0 ≤ j) (h1 : j ≤ 10000) : CPowX i j := by
  refine ⟨h0, ?_⟩
  have l := s.log
  have b : (Builtin.Int.intBits i : Int) ≤ 1900 := by
    unfold Builtin.Int.intBits
    split <;> omega
  have b0 : (0 : Int) ≤ (Builtin.Int.intBits i : Int) := Int.natCast_nonneg _
  have m : (Builtin.Int.intBits i : Int) * j ≤ 1900 * 10000 := Int.mul_le_mul b h1 h0 (by decide)
  omega

/-! ### the source of draws -/
structure Deal (H : Hp) (d l : Addr) : Prop where
  ex : ∃ (xs : List Int) (n : Int), H d = some (.lst [.ref l, .int n]) ∧ H l = some (.lst (xs.map V.int)) ∧ xs.length ≤ 63 ∧ 0 ≤ n ∧ n < 2147483647
theorem Deal.ne {H : Hp} {d l : Addr} (D : Deal H d l) : d ≠ l := by
  obtain ⟨xs, n, h1, h2, _⟩ := D.ex
  intro e
  subst e
  rw [h1] at h2
  have h3 := HO.lst.inj (Option.some.inj h2)
  cases xs with
  | nil => cases h3
  | cons x r => cases h3
theorem Deal.same {H H' : Hp} {d l : Addr} (D : Deal H d l) (e : Same H H') : Deal H' d l := by
  obtain ⟨xs, n, h1, h2, h3⟩ := D.ex
  exact ⟨xs, n, e _ _ h1, e _ _ h2, h3⟩
theorem Deal.fresh {H : Hp} {d l p : Addr} (D : Deal H d l) (h : H p = none) : p ∉ [d, l] := by
  obtain ⟨xs, n, h1, h2, _⟩ := D.ex
  intro z
  rcases List.mem_cons.mp z with e | z
  · rw [e, h1] at h; cases h
  · rw [List.mem_singleton.mp z, h2] at h; cases h
theorem Deal.upd {H : Hp} {d l p : Addr} {o : HO} (D : Deal H d l) (h : p ∉ [d, l]) : Deal (upd H p o) d l := by
  obtain ⟨xs, n, h1, h2, h3⟩ := D.ex
  have n1 : d ≠ p := fun e => h (by simp [e])
  have n2 : l ≠ p := fun e => h (by simp [e])
  exact ⟨xs, n, by rw [upd_ne n1]; exact h1, by rw [upd_ne n2]; exact h2, h3⟩
theorem Deal.none {H : Hp} {d l : Addr} (D : Deal H d l) : ∀ b ∈ [d, l], H b ≠ none := by
  obtain ⟨xs, n, h1, h2, _⟩ := D.ex
  intro b hb
  rcases List.mem_cons.mp hb with e | z
  · rw [e, h1]; simp
  · rw [List.mem_singleton.mp z, h2]; simp
/-- what a drawing def hands on: the source stands, all else stands -/
structure Drew (d l : Addr) (H H' : Hp) : Prop where
  deal : Deal H' d l
  grow : Grow [d, l] H H'
theorem Drew.trans {d l : Addr} {H H1 H2 : Hp} (a : Drew d l H H1) (b : Drew d l H1 H2) : Drew d l H H2 := ⟨b.deal, a.grow.trans b.grow⟩
theorem Drew.new {d l : Addr} {H H' : Hp} {p : Addr} {o : HO} (a : Drew d l H H') (h : H' p = none) : Drew d l H (upd H' p o) :=
  ⟨a.deal.upd (a.deal.fresh h), a.grow.trans (Grow.of (same_new h))⟩
theorem Drew.refl {d l : Addr} {H : Hp} (D : Deal H d l) : Drew d l H H := ⟨D, Grow.refl _ _⟩
theorem Drew.same {d l : Addr} {H H' H2 : Hp} (a : Drew d l H H') (e : Same H' H2) : Drew d l H H2 := ⟨a.deal.same e, a.grow.trans (Grow.of e)⟩
theorem Drew.get {d l : Addr} {H H' : Hp} {p : Addr} {o : HO} (a : Drew d l H H') (n : p ∉ [d, l]) (h : H p = some o) : H' p = some o := a.grow p o n h
theorem Drew.seqL {d l : Addr} {K : PySem.W.Frag} {H H' : Hp} {a : Addr} {xs : List V} (g : Drew d l H H') (n : a ∉ [d, l]) (h : SqL K H a xs) : SqL K H' a xs := g.grow.seqL n h
theorem Drew.free {d l : Addr} {H H' : Hp} {p : Addr} (a : Drew d l H H') (h : H' p = none) : H p = none := a.grow.none a.deal.none h
end Eb

/-! ## tuples turned about; len(set(t)) -/
namespace Eb
open PySem PySem.Spec PyProof.Rows L2
section
variable {prog : Program} {w : World} {A : Around} {E : Value → Shared → Prop} {s : Shared}
theorem adjust_rev (n : Nat) : Builtin.Slice.sliceAdjust none none (-1) (n : Int) = ((n : Int) - 1, -1) := by
  unfold Builtin.Slice.sliceAdjust
  simp
theorem places_rev (n : Nat) : Builtin.Slice.slicePlaces ((n : Int) - 1) (-1) (-1) = n := by
  unfold Builtin.Slice.slicePlaces
  rw [if_neg (by decide)]
  by_cases c : (n : Int) - 1 > -1
  · rw [if_pos c]
    show (((n : Int) - 1 - (-1) - 1) / 1 + 1).toNat = n
    rw [Int.ediv_one]
    omega
  · rw [if_neg c]
    omega
theorem applied_rev {sl : Addr} {v3 : Value} {n : Nat} {Q : Int × Int × Nat → Shared → Prop} (hs : s.heap.IsSliceOf sl .none .none v3) (p3 : IsPart v3 (some (-1))) (h : Q ((n : Int) - 1, -1, n) s) :
    wpAny (model prog w) A (Builtin.Slice.sliceApplied (.ref sl) (pure (n : Int))) Q E s := by
  obtain ⟨os, hos, hcs, hds⟩ := id hs
  unfold Builtin.Slice.sliceApplied Builtin.Slice.sliceFields
  refine wpAny_bind (wpAny_bind (wpAny_field hos hds (x := .none) rfl (wpAny_bind (wpAny_field hos hds (x := .none) rfl (wpAny_bind (wpAny_field hos hds (x := v3) rfl (wpAny_pure ?_)))))))
  refine wpAny_bind (HT.slicePart_ p3 ?_)
  show wpAny _ _ (if ((-1 : Int) == 0) = true then _ else _) _ _ s
  rw [if_neg (by decide)]
  refine wpAny_bind (HT.slicePart_ .none (wpAny_bind (HT.slicePart_ .none (wpAny_bind (wpAny_pure ?_)))))
  show wpAny _ _ (match Builtin.Slice.sliceAdjust none none (-1) (n : Int) with | (lo, hi) => pure (lo, (-1 : Int), Builtin.Slice.slicePlaces lo hi (-1))) _ _ s
  rw [adjust_rev]
  show wpAny _ _ (pure ((n : Int) - 1, (-1 : Int), Builtin.Slice.slicePlaces ((n : Int) - 1) (-1) (-1))) _ _ s
  rw [places_rev]
  exact wpAny_pure h
theorem fm_some {α β : Type} {f : α → Option β} {g : α → β} : ∀ {l : List α}, (∀ m ∈ l, f m = some (g m)) → l.filterMap f = l.map g
  | [], _ => rfl
  | x :: r, h => by
    rw [List.filterMap_cons, h x (by simp), List.map_cons, fm_some fun m hm => h m (by simp [hm])]
theorem pick_rev (xs : Array Value) : ((List.range xs.size).filterMap fun (m : Nat) => xs[(((xs.size : Nat) : Int) - 1 + (m : Int) * (-1)).toNat]?) = xs.toList.reverse := by
  apply List.ext_getElem?
  intro i
  have e1 : (List.range xs.size).filterMap (fun (m : Nat) => xs[(((xs.size : Nat) : Int) - 1 + (m : Int) * (-1)).toNat]?) = (List.range xs.size).map (fun m => xs.toList.reverse.getD m .none) := by
    refine fm_some fun m hm => ?_
    have hm' := List.mem_range.mp hm
    have hz : (((xs.size : Nat) : Int) - 1 + (m : Int) * (-1)).toNat = xs.size - 1 - m := by omega
    rw [hz]
    have h1 : xs.size - 1 - m < xs.size := by omega
    rw [Array.getElem?_eq_getElem h1]
    show _ = some (xs.toList.reverse.getD m .none)
    rw [List.getD_eq_getElem?_getD, List.getElem?_reverse (by rw [Array.length_toList]; exact hm'), Array.length_toList, Array.getElem?_toList, Array.getElem?_eq_getElem h1]
    rfl
  rw [e1, List.getElem?_map]
  by_cases c : i < xs.size
  · rw [List.getElem?_range c]
    have h2 : i < xs.toList.reverse.length := by
      rw [List.length_reverse, Array.length_toList]
      exact c
    show some (xs.toList.reverse.getD i .none) = _
    rw [List.getD_eq_getElem?_getD, List.getElem?_eq_getElem h2]
    rfl
  · rw [List.getElem?_eq_none (by rw [List.length_range]; omega), List.getElem?_eq_none (by rw [List.length_reverse, Array.length_toList]; omega)]
    rfl
theorem item_rev {t sl : Addr} {items : Array Value} {v3 : Value} {Q : Value → Shared → Prop} (ht : IsTup s.heap t items) (hs : s.heap.IsSliceOf sl .none .none v3) (p3 : IsPart v3 (some (-1)))
    (h : Q (.ref s.heap.objs.size) { s with heap := s.heap.push { cls := .type "tuple", data := .seq items.toList.reverse.toArray } }) (hsz : items.size ≤ sizeLine) : wpAny (model prog w) A (getItem (.ref t) (.ref sl)) Q E s := by
  have hok : sizeOk (.seq items.toList.reverse.toArray) := by
    show items.toList.reverse.toArray.size ≤ sizeLine
    rw [List.size_toArray, List.length_reverse, Array.length_toList]
    exact hsz
  obtain ⟨os, hos, hcs, hds⟩ := id hs
  have hTs : s.TypeIs (.ref sl) "slice" := ⟨os, hos, hcs⟩
  unfold getItem
  try with_reducible refine wpAny_holding ?_
  first | refine wpAny_bind (wpAny_pure ?_) | skip
  refine wpAny_bind (wpAny_sequenceKey ht.typeIs (by decide) ?_)
  refine wpAny_bind (wpAny_callSpecial?_slot (name := Str.ofString "__getitem__") ht.typeIs PyProof.Rows.slot_tuple_getitem (wpAny_call_entry PyProof.Rows.slot_tuple_getitem ht.typeIs entry_tuple_getitem ?_ (args_tuple_getitem _ _)))
  show wpAny _ _ (Builtin.Tuple.tupleItemsOf (.ref t) >>= _) _ _ s
  refine wpAny_bind (tupleItemsOf_ ht (wpAny_bind (wpAny_typeOf hTs ?_)))
  rw [if_pos (by decide)]
  refine wpAny_bind (applied_rev hs p3 ?_)
  have hno : ¬ (((((items.size : Nat) : Int) - 1) == 0 && (-1 : Int) == 1 && items.size == items.size) = true) := by
    rw [show ((-1 : Int) == 1) = false from rfl, Bool.and_false, Bool.false_and]
    exact Bool.false_ne_true
  show wpAny _ _ (if ((((items.size : Nat) : Int) - 1) == 0 && (-1 : Int) == 1 && items.size == items.size) = true then _ else _) _ _ s
  rw [if_neg hno, pick_rev]
  first
    | exact wpAny_bind (m := Builtin.Tuple.tupleExact _) (wpAny_newObj_type (wpAny_pure ⟨_, rfl, wpAny_pure h⟩) hok)
    | exact wpAny_bind (m := Builtin.Tuple.tupleExact _) (wpAny_newObj_type (wpAny_bind (wpAny_pure (wpAny_pure ⟨_, rfl, wpAny_pure h⟩))) hok)
    | exact wpAny_bind (wpAny_bind (m := Builtin.Tuple.tupleExact _) (wpAny_newObj_type (wpAny_pure (wpAny_pure ⟨_, rfl, wpAny_pure h⟩)) hok))
    | exact wpAny_bind (wpAny_bind (m := Builtin.Tuple.tupleExact _) (wpAny_newObj_type (wpAny_pure ⟨_, rfl, wpAny_pure h⟩) hok))
end
section
variable {X : Cx}
/-- t[::-1], t a tuple: a new one -/
def tRevT (K : PySem.W.Frag) (te : TE) : TE := fun σ H Q => te σ H fun x H1 => ∃ a xs, x = .ref a ∧ SqT K H1 a xs ∧ ∀ p, H1 p = none → Q (.ref p) (upd H1 p (.tup xs.reverse))
theorem pe_revT {e : Expr} {te : TE} {k : Nat} {p1 p2 p3 pos : Pos} (he : PE X e te) : PE X (.Subscript e (.Slice none none (some (.UnaryOp .USub (.Constant (.int 1) k p1) p2)) p3) pos) (tRevT X.K te) := by
  refine ⟨fun pins s σ H Q I h => Subscript_ (thn (he.run pins s σ H _ I h) fun v s1 hh => ?_)⟩
  obtain ⟨x, H1, I1, r1, a, xs, rfl, hx, q⟩ := hh
  cases r1
  refine wpAny_Slice (thn (po_none.run pins s1 σ H1 (fun o H2 => o = none ∧ H2 = H1) I1 ⟨rfl, rfl⟩) fun vl s2 hl => ?_)
  obtain ⟨_, _, I2, pl, rfl, rfl⟩ := hl
  refine thn (po_none.run pins s2 σ _ (fun o H3 => o = none ∧ H3 = _) I2 ⟨rfl, rfl⟩) fun vu s3 hu => ?_
  obtain ⟨_, _, I3, pu, rfl, rfl⟩ := hu
  refine thn ((po_some (pe_un un_neg pe_int) : PO X (some (.UnaryOp .USub (.Constant (.int 1) k p1) p2)) _).run pins s3 σ _ (fun o H4 => o = some (-1) ∧ H4 = _) I3 ⟨1, rfl, -1, rfl, rfl, rfl⟩) fun vs s4 hv => ?_
  obtain ⟨_, H4, I4, ps, rfl, rfl⟩ := hv
  cases pl
  cases pu
  have I5 : Inv X pins σ H4 { s4 with heap := s4.heap.push { cls := .type "slice", data := .fields #[.none, .none, vs] } } := I4.kept (t' := s4.toks) fun b ob z => Heap.get?_push_of_some _ z
  obtain ⟨its, r, ht, hz⟩ := I5.tuple hx
  have hlen := r.length
  refine tail_any (ops := [.ref a, .ref s4.heap.objs.size]) ht.typeIs (PyProof.Rows.slot_tuple_getitem.lookup) ?_ (by with_unfolding_all rfl)
  refine item_rev ht (Heap.IsSliceOf.new _ .none .none vs) ps ?_ (by rw [List.size_toArray]; omega)
  refine ⟨.ref _, _, I5.laid (t' := s4.toks) (o := .tup xs.reverse) (fun b ob z => Heap.get?_push_of_some _ z) (Nat.le_refl _) ?_, rfl, q _ (I5.hok.fresh (Nat.le_refl _))⟩
  exact ⟨by rw [List.length_reverse]; exact hz, its.reverse, r.reverse, IsTup.new _ _⟩
/-- len(set(t)), t a tuple of ints: how many unlike ones -/
def tLenSetT (K : PySem.W.Frag) (ta : TE) : TE := fun σ H Q => ta σ H fun x H1 => ∃ (l : Addr) (ns : List Int), x = .ref l ∧ SqT K H1 l (ns.map V.int) ∧ ns.length ≤ 4000 ∧ ∀ ks : List Int, ks.Nodup → (∀ z, z ∈ ks ↔ z ∈ ns) → Q (.int (ks.length : Nat)) H1
theorem pe_lenSetT {a : Expr} {ta : TE} {p p2 q pos : Pos} (hg : Gl X "len") (hm : X.mg "len" = none) (hg2 : Gl X "set") (hm2 : X.mg "set" = none) (ha : PE X a ta) (hc : X.calm = true := by rfl)
    (na : starEach [a] X.env = (false, eval a X.env) :: starEach [] X.env := by rfl) : PE X (.Call (.Name "len" p) [.Call (.Name "set" p2) [a] [] q] [] pos) (tLenSetT X.K ta) := by
  refine ⟨fun pins s σ H Q I h => Call_ (ld_blt I hg hm boot_len ?_)⟩
  refine PyProof.Rows.callWith_builtin1 (PyProof.Rows.args_cons (Call_ (ld_blt I hg2 hm2 boot_set ?_)) rfl) rfl rfl
  refine PyProof.Rows.callWith_type1 (PyProof.Rows.args_cons (thn (ha.run pins s σ H _ I h) fun v s1 hh => PyProof.Rows.args_nil ?_) na) na rfl
  obtain ⟨x, H1, I1, r1, l, ns, rfl, hq, hl, k⟩ := hh
  cases r1
  obtain ⟨its, r, pt, hz⟩ := I1.tuple hq
  refine call_set_tupI ns (I1.ok.hd hc) (show s1.heap.IsTuple l its.toArray from pt) (by simpa using r.ints) (by unfold scanBound; omega) fun h' tk c R1 hcn keep => PyProof.Rows.args_nil ?_
  obtain ⟨o, es, ep, t, ho, hex, hd, _, nd, mem, hsz, hf, hn, _⟩ := R1
  have I2 : Inv X pins σ H1 { s1 with heap := h', toks := tk } := I1.kept keep
  have kl : (es.toList.map keyOf).length = es.size := by rw [List.length_map, Array.length_toList]
  refine call_len_set ho hex hd hf (by have : scanBound = 4096 := rfl; omega) ⟨.int (es.toList.map keyOf).length, H1, I2.tok _, ⟨_, by rw [kl]⟩, k _ nd fun z => ?_⟩
  rw [← mem z]
  exact decide_eq_true_iff
end
end Eb

/-! ## own layer: def f(self, *v, k = default): calls f(a, .., k = e), f(*y, k = e), and instances made so -/
namespace Eb
open PySem PySem.Spec PyProof.Rows L2 StX
/-- the shape of a binding that looks one keyword's default up and then lays a tuple -/
def KwTup {α : Type} (D : Addr) (kn : Str) (u : Value) (rest : List Value) (t : Sem α) (r : Value → α) : Prop :=
  ∃ (β γ : Type) (k1 : Option Value → Sem β) (k2 : β → Sem γ) (k3 : γ → Sem α) (a : β), t = ((nsGet D kn >>= k1) >>= k2) >>= k3 ∧ k1 (some u) = pure a ∧ (k2 a >>= k3) = (newTuple rest >>= fun t => pure (r t))
/-- the keyword's part of a call -/
def kwOf (kn : Str) : Option Value → List (Str × Value)
  | none => []
  | some o => [(kn, o)]
/-- a def's promise, called with values vs and one keyword kn or none -/
def FnK (P : Program) (w : World) (K : PySem.W.Frag) (mg : Str → Option Value) (base : Heap) (CX : CXT) (k : Nat) (f : Addr) (kn : Str) (sp : List V → Option V → Hp → VK → XK → Prop) : Prop :=
  ∀ (A : Around) (outer : List Env) (s : Shared) (H : Hp) (us : List Value) (ou : Option Value) (vs : List V) (ov : Option V) (Q : VK) (E : XK), Room k A → Env0 P w K mg base A outer s H → Vals vs us → RelO ov ou → sp vs ov H Q E →
    codeAny (model P w) A (.call (.ref f) ⟨us, kwOf kn ou⟩) (CR CX outer P w H s Q E) s
section
variable {CX : CXT} {P : Program} {w : World} {K : PySem.W.Frag} {mg : Str → Option Value} {base : Heap} {k : Nat} {f : Addr} {name qual : Str} {params : Arguments} {body : List Stmt} {scope : Scope} {doc pm cdv ct oc : Value} {an od : Option Addr} {D : Addr}
  {osl : Array (Option Value)} {N : List Str} {sp : Sp} {p1 kn pv : Str} {du : Value} {dv : V}
theorem fn_ko (lk : K.lookup f = some ⟨oc, od, .func (PySem.W.fnOf name qual params body scope .none (.ref D) doc pm an cdv ct), osl⟩) (hcd : PySem.W.codeIn K cdv qual = true) (S : FnScope N [p1, kn, pv] scope) (hCX : CXUp CX)
    (hD : PySem.W.nsIn K D kn = some (some du)) (rd : RelV dv du)
    (hb1 : ∀ (a o : Value) (rest : List Value), bindArgs (PySem.W.fnOf name qual params body scope .none (.ref D) doc pm an cdv ct) ⟨a :: rest, [(kn, o)]⟩ = (newTuple rest >>= fun t => pure [(p1, a), (kn, o), (pv, t)]))
    (hb0 : ∀ (a : Value) (rest : List Value), KwTup D kn du rest (bindArgs (PySem.W.fnOf name qual params body scope .none (.ref D) doc pm an cdv ct) ⟨a :: rest, []⟩) (fun t => [(p1, a), (kn, du), (pv, t)]))
    (hbody : ∀ (A : Around) (outer : List Env) (s : Shared) (H : Hp) (vs : List V) (Q : VK) (E : XK), Room k (A.deeper (envOfC qual scope s.heap.objs.size f cdv)) → sp vs H Q E →
      ∃ t, PSs (cxOf CX P w K mg base N qual scope f cdv A outer s H E) body t ∧ t { nx := fun _ H' => Q .non H', rt := Q } (start N vs) H) :
    FnK P w K mg base CX (k + 1) f kn (fun vs ov H Q E => ∃ a rest, vs = a :: rest ∧ rest.length ≤ sizeLine ∧ ∀ p, H p = Option.none → sp [a, ov.getD dv, V.ref p] (upd H p (.tup rest)) Q E) := by
  intro A outer s H us ou vs ov Q E hr e0 r ro hsp
  obtain ⟨a, rest, ev, hz, hq⟩ := hsp
  subst ev
  cases r with
  | cons ra rr =>
    rename_i u us
    have hn : H s.heap.objs.size = Option.none := e0.hok.fresh (Nat.le_refl _)
    have hl2 : us.length ≤ sizeLine := by rw [← rr.length]; exact hz
    have KX : K.In s.heap := e0.mod.kin.keeps fun b o e => (e0.bs b o e).1
    -- the value of the keyword
    obtain ⟨o, rO, eO⟩ : ∃ o : Value, RelV (ov.getD dv) o ∧ (ou = none → o = du) ∧ (∀ z, ou = some z → o = z) := by
      cases ou with
      | none =>
        cases ov with
        | none => exact ⟨du, rd, (fun _ => rfl), (fun _ e => nomatch e)⟩
        | some y => exact ro.elim
      | some z =>
        cases ov with
        | none => exact ro.elim
        | some y => exact ⟨z, ro, (fun e => nomatch e), (fun _ e => Option.some.inj e)⟩
    refine run_bnd lk hcd S hr e0 (G := fun xs H2 => ∃ p, H p = Option.none ∧ xs = [a, ov.getD dv, V.ref p] ∧ H2 = upd H p (.tup rest)) (fun A' Ex Q' h => ?_) fun s2 H2 xs ⟨p, hp, ex, eH⟩ hr' => ?_
    · have new : ObjOk P w (upd H s.heap.objs.size (.tup rest)) (s.heap.push ({ cls := .type "tuple", data := .seq us.toArray } : Obj)) s.heap.objs.size (.tup rest) := ⟨hz, us, rr, ⟨_, Heap.get?_push_size _ rfl, rfl, _, rfl⟩⟩
      have un := un_laid (fs := frs outer) (s := s) (o := ({ cls := .type "tuple", data := .seq us.toArray } : Obj)) (u := .tup rest) hn
      have fin : wpAny (model P w) A' (newTuple us >>= fun t => pure [(p1, u), (kn, o), (pv, t)]) Q' Ex s := by
        refine wpAny_bind (wpAny_newTuple (wpAny_pure ?_) hl2)
        exact h _ _ [a, ov.getD dv, V.ref s.heap.objs.size] [u, o, Value.ref s.heap.objs.size] (env0_laid e0 new) un rfl (fun e s' => hCX outer s H _ _ E e s' un (fun b o q => Heap.get?_push_of_some _ q) rfl) (.cons ra (.cons rO (.cons rfl .nil))) rfl ⟨_, hn, rfl, rfl⟩
      cases ou with
      | none =>
        cases eO.1 rfl
        obtain ⟨β, γ, k1, k2, k3, b, e1, e2, e3⟩ := hb0 u us
        show wpAny _ _ (bindArgs _ ⟨u :: us, []⟩) _ _ _
        rw [e1, bind_assoc]
        have l1 : PySem.W.Looks (model P w) s.heap (nsGet D kn >>= k1) b := (PySem.W.looks_nsIn KX hD).andThen (PySem.W.Looks.of_pure e2)
        refine wpAny_bind (l1.here ?_)
        show wpAny _ _ (k2 b >>= k3) _ _ _
        rw [e3]
        exact fin
      | some z =>
        cases eO.2 z rfl
        show wpAny _ _ (bindArgs _ ⟨u :: us, [(kn, o)]⟩) _ _ _
        rw [hb1 u o us]
        exact fin
    · subst ex eH
      exact hbody A outer s2 _ _ Q E hr' (hq p hp)
end
/-! ### instances made by such an __init__ -/
/-- C(..): vs the positional values, ov the keyword's -/
def mkO (C : Addr) (sp : List V → Option V → Hp → VK → XK → Prop) (E : XK) (vs : List V) (ov : Option V) (H1 : Hp) (Q : VK) : Prop := ∀ x dx, H1 x = Option.none → H1 dx = Option.none → dx ≠ x →
  sp (V.ref x :: vs) ov (upd (upd H1 dx (.own x)) x (.ins C dx [])) (fun v H2 => v = .non ∧ Q (.ref x) H2) E
section
variable {X : Cx} {CX : CXT} {k : Nat} {f C : Addr} {kn : Str} {sp : List V → Option V → Hp → VK → XK → Prop} {E : XK} {x : Str} {e y : Expr} {es : List Expr} {kws : List Keyword} {t tk : TA} {te : TE} {p p2 pos : Pos}
theorem run_makeO {pins : List (Addr × Obj)} {σ : L2.St} {H : Hp} {s : Shared} {Q : VK} {us : List Value} {ou : Option Value} {vs : List V} {ov : Option V} (M : Mk X.K C f) (F : FnK X.prog X.w X.K X.mg X.base CX k f kn sp) (hr : Room (k + 1) X.A) (hx : Passes CX X E) (I : Inv X pins σ H s) (r : Vals vs us) (ro : RelO ov ou)
    (h : mkO C sp E vs ov H Q) : wpAny (model X.prog X.w) X.A (call (.ref C) us (kwOf kn ou)) (EP X pins σ Q) X.xe s := by
  have hq := h (s.heap.objs.size + 1) s.heap.objs.size (I.hok.fresh (Nat.le_succ _)) (I.hok.fresh (Nat.le_refl _)) (Nat.ne_of_lt (Nat.lt_succ_self _))
  have I2 := Inv.made (C := C) I
  have r2 : Vals (V.ref (s.heap.objs.size + 1) :: vs) (Value.ref (s.heap.objs.size + 1) :: us) := .cons rfl r
  refine wpAny_call (make_map (f := f) I.kIn M.makes M.init (beq_iff_eq.mp M.fn) (codeAny_mono (F _ X.stack _ _ (Value.ref (s.heap.objs.size + 1) :: us) ou _ _ _ E (hr.make C us (kwOf kn ou)) (I2.env0.make C us (kwOf kn ou)) r2 ro hq) fun r s' hq' => ?_))
  cases r with
  | error e => exact hx pins σ _ _ e s' I2 hq'
  | ok fl =>
    cases fl with
    | ret u =>
      obtain ⟨v, H', I3, rv, ev, q3⟩ := I2.after hq'
      subst ev
      exact ⟨rv, ⟨V.ref (s.heap.objs.size + 1), H', I3, rfl, q3⟩⟩
    | next => exact False.elim hq'
    | brk => exact False.elim hq'
    | cont => exact False.elim hq'
/-- C(e, ..) -/
theorem pe_mkO (M : Mk X.K C f) (F : FnK X.prog X.w X.K X.mg X.base CX k f kn sp) (hr : Room (k + 1) X.A) (hg : Gl X x) (hm : X.mg x = some (.ref C)) (hx : Passes CX X E) (ha : PA X (e :: es) t) (hdb : (x == ("__debug__" : Str)) = false := by decide)
    (he : starEach (e :: es) X.env = (false, eval e X.env) :: starEach es X.env := by rfl) (hpl : (backTo pos (starEach es X.env)).any (·.1) = false := by rfl) : PE X (.Call (.Name x p) (e :: es) [] pos) (fun σ H Q => t σ H fun vs H1 => mkO C sp E vs none H1 Q) := by
  refine ⟨fun pins s σ H Q I h => ?_⟩
  refine wpAny_Call_Name_kw (ld_glob I hg hm ?_ hdb)
  refine PySem.W.callWith_K (h₀ := X.base) I.ok.mod.kin M.kp (thn (ha.run pos pins s σ H _ I h) fun us s1 ⟨vs, H1, I1, r, q⟩ => ⟨I1.kIn, ?_⟩) he hpl
  exact run_makeO (ou := none) (ov := none) M F hr hx I1 r trivial q
/-- C(e, .., kn = v) -/
theorem pe_mkOk (M : Mk X.K C f) (F : FnK X.prog X.w X.K X.mg X.base CX k f kn sp) (hr : Room (k + 1) X.A) (hg : Gl X x) (hm : X.mg x = some (.ref C)) (hx : Passes CX X E) (ha : PA X (e :: es) t) (hkw : PK X kws tk)
    (hall : (backToKw pos (keywordEach kws X.env)).all (·.1.isSome) = true := by rfl) (hks : (backToKw pos (keywordEach kws X.env)).filterMap (·.1) = [kn] := by rfl) (hdb : (x == ("__debug__" : Str)) = false := by decide)
    (he : starEach (e :: es) X.env = (false, eval e X.env) :: starEach es X.env := by rfl) (hpl : ((backTo pos (starEach (e :: es) X.env)).any (·.1) || (backToKw pos (keywordEach kws X.env)).any (·.1.isNone)) = false := by rfl) :
    PE X (.Call (.Name x p) (e :: es) kws pos) (fun σ H Q => t σ H fun vs H1 => tk σ H1 fun zs H2 => ∃ z, zs = [z] ∧ mkO C sp E vs (some z) H2 Q) := by
  refine ⟨fun pins s σ H Q I h => ?_⟩
  refine wpAny_Call_Name_kw (ld_glob I hg hm ?_ hdb)
  refine PySem.W.callWith_KW (h₀ := X.base) I.ok.mod.kin M.kp hall (thn (ha.run pos pins s σ H _ I h) fun us s1 ⟨vs, H1, I1, r, q⟩ => ?_) hpl he
  refine thn (hkw.run pos pins s1 σ H1 _ I1 q) fun ws s2 ⟨zs, H2, I2, rz, z, ez, q2⟩ => ⟨I2.kIn, ?_⟩
  subst ez
  cases rz with
  | cons rz1 rz2 =>
    cases rz2
    rw [hks]
    exact run_makeO (ou := some _) (ov := some z) M F hr hx I2 r rz1 q2
/-- C(kn = v) -/
theorem pe_mkOk0 (M : Mk X.K C f) (F : FnK X.prog X.w X.K X.mg X.base CX k f kn sp) (hr : Room (k + 1) X.A) (hg : Gl X x) (hm : X.mg x = some (.ref C)) (hx : Passes CX X E) (hkw : PK X kws tk)
    (hall : (backToKw pos (keywordEach kws X.env)).all (·.1.isSome) = true := by rfl) (hks : (backToKw pos (keywordEach kws X.env)).filterMap (·.1) = [kn] := by rfl) (hdb : (x == ("__debug__" : Str)) = false := by decide)
    (hpl : ((backTo pos (starEach [] X.env)).any (·.1) || (backToKw pos (keywordEach kws X.env)).any (·.1.isNone)) = false := by rfl) :
    PE X (.Call (.Name x p) [] kws pos) (fun σ H Q => tk σ H fun zs H2 => ∃ z, zs = [z] ∧ mkO C sp E [] (some z) H2 Q) := by
  refine ⟨fun pins s σ H Q I h => ?_⟩
  refine wpAny_Call_Name_kw (ld_glob I hg hm ?_ hdb)
  refine PySem.W.callWith_KW0 (h₀ := X.base) I.ok.mod.kin M.kp hall ?_ hpl
  refine thn (hkw.run pos pins s σ H _ I h) fun ws s2 ⟨zs, H2, I2, rz, z, ez, q2⟩ => ⟨I2.kIn, ?_⟩
  subst ez
  cases rz with
  | cons rz1 rz2 =>
    cases rz2
    rw [hks]
    exact run_makeO (us := []) (vs := []) (ou := some _) (ov := some z) M F hr hx I2 .nil rz1 q2
/-! C(*y, kn = v): the star's value, the keyword's, then the star's items -/
theorem lone_kw {M : Model} {A : Around} {E : Value → Shared → Prop} {s : Shared} {f : Value} {x : Sem Value} {pos : Pos} {kws : List (Option Str × Sem Value)} {Q : Args → Shared → Prop} (hall : kws.all (·.1.isSome) = true)
    (h : wpAny M A x (fun v s₁ => wpAny M A (evalAll (kws.map (·.2))) (fun ks s₂ => PySem.W.StarOf M A E v (fun vs s₃ => Q ⟨vs, (kws.filterMap (·.1)).zip ks⟩ s₃) s₂) E s₁) E s) :
    wpAny M A (evalArgs f true [(true, (do let v ← x; standAt pos; pure v))] kws) Q E s := by
  unfold evalArgs
  refine wpAny_bind (wpAny_bind (wpAny_mono h (fun v s₁ h₁ => wpAny_bind (wpAny_standAt (wpAny_pure ?_))) fun _ _ x => x))
  refine wpAny_bind (wpAny_pure ?_)
  refine wpAny_holding ?_
  simp only [hall, if_true]
  refine wpAny_bind (wpAny_mono h₁ (fun ks s₂ h₂ => ?_) fun _ _ x => x)
  unfold PySem.W.StarOf at h₂
  refine wpAny_bind (wpAny_bind (wpAny_mono h₂ (fun b s₃ h₃ => ?_) fun _ _ x => x))
  obtain ⟨rfl, h₃⟩ := h₃
  simp only [Bool.false_eq_true, if_false]
  exact wpAny_holding (wpAny_mono h₃ (fun vs s₄ h₄ => wpAny_pure h₄) fun _ _ x => x)
theorem call_star_kw {M : Model} {A : Around} {E : Value → Shared → Prop} {s : Shared} {f : Value} {first : List Value} {pos : Pos} {Q : Value → Shared → Prop} {K : PySem.W.Frag} {args : List (Bool × Sem Value)} {kws : List (Option Str × Sem Value)} (hst : args.any (·.1) = true) (hk : PySem.W.keepIn K f = true)
    (h : wpAny M A (evalArgs f true args kws) (fun a s₁ => K.In s₁.heap ∧ wpAny M A (call f (first ++ a.pos) a.kw) Q E s₁) E s) : wpAny M A (callWith pos f first args kws) Q E s := by
  unfold callWith
  refine wpAny_bind (wpAny_holding (wpAny_mono h (fun a s₁ h₁ => wpAny_bind (wpAny_standAt ?_)) fun _ _ x => x))
  obtain ⟨k, hk', L⟩ := PySem.W.keeps_K (M := M) hk _ h₁.1
  simp only [hst, Bool.true_or]
  refine wpAny_bind (L.here ?_)
  have tail : ∀ {t : Sem Value}, wpAny M A t Q E s₁ → wpAny M A (t >>= fun r => holding [r] point >>= fun _ => pure r) Q E s₁ :=
    fun ht => wpAny_bind (wpAny_mono ht (fun r s₂ hr => wpAny_bind (wpAny_holding (wpAny_point (wpAny_pure hr)))) fun _ _ x => x)
  have marked (mk : Value) : wpAny M A (callMarked mk f (first ++ a.pos) a.kw) Q E s₁ := by unfold callMarked; exact Calls.wpAny_keep h₁.2
  rcases hk' with rfl | rfl | rfl <;> dsimp only <;> first | exact tail (marked _) | exact tail (wpAny_operating h₁.2)
/-- C(*y, kn = v) -/
theorem pe_mkOs (M : Mk X.K C f) (F : FnK X.prog X.w X.K X.mg X.base CX k f kn sp) (hr : Room (k + 1) X.A) (hg : Gl X x) (hm : X.mg x = some (.ref C)) (hx : Passes CX X E) (hy : PE X y te) (hkw : PK X kws tk)
    (hall : (backToKw pos (keywordEach kws X.env)).all (·.1.isSome) = true := by rfl) (hks : (backToKw pos (keywordEach kws X.env)).filterMap (·.1) = [kn] := by rfl) (hdb : (x == ("__debug__" : Str)) = false := by decide)
    (hst : starEach [.Starred y p2] X.env = [(true, eval y X.env)] := by rfl) :
    PE X (.Call (.Name x p) [.Starred y p2] kws pos) (fun σ H Q => te σ H fun v H1 => tk σ H1 fun zs H2 => ∃ a xs z, v = V.ref a ∧ (SqT X.K H2 a xs ∨ SqL X.K H2 a xs) ∧ zs = [z] ∧ mkO C sp E xs (some z) H2 Q) := by
  refine ⟨fun pins s σ H Q I h => ?_⟩
  refine wpAny_Call_Name_kw (ld_glob I hg hm ?_ hdb)
  rw [hst]
  refine call_star_kw (K := X.K) rfl M.kp (lone_kw hall ?_)
  refine thn (hy.run pins s σ H _ I h) fun u s1 ⟨v, H1, I1, rv, q⟩ => ?_
  refine thn (hkw.run pos pins s1 σ H1 _ I1 q) fun ws s2 ⟨zs, H2, I2, rz, a, xs, z, ev, hxs, ez, q2⟩ => ?_
  subst ev ez
  obtain rfl : u = Value.ref a := rv
  cases rz with
  | cons rz1 rz2 =>
    cases rz2
    rw [hks]
    exact star_any I2 hxs fun us s3 I3 rv => ⟨I3.kIn, run_makeO (ou := some _) (ov := some z) M F hr hx I3 rv rz1 q2⟩
/-- C() -/
theorem pe_mkO0 (M : Mk X.K C f) (F : FnK X.prog X.w X.K X.mg X.base CX k f kn sp) (hr : Room (k + 1) X.A) (hg : Gl X x) (hm : X.mg x = some (.ref C)) (hx : Passes CX X E)
    (hdb : (x == ("__debug__" : Str)) = false := by decide) : PE X (.Call (.Name x p) [] [] pos) (fun σ H Q => mkO C sp E [] none H Q) := by
  refine ⟨fun pins s σ H Q I h => ?_⟩
  refine wpAny_Call_Name_kw (ld_glob I hg hm ?_ hdb)
  exact PySem.W.callWith_K0 I.kIn M.kp (run_makeO (us := []) (vs := []) (ou := none) (ov := none) M F hr hx I .nil trivial h)
end
end Eb

/-! ## own layer: operators of an own class (instances with a dict) -/
namespace Eb
open PySem PySem.Spec PyProof.Rows L2 StX
/-- an instance of the class at C -/
def InsO (H : Hp) (a C : Addr) : Prop := ∃ dx fs, H a = some (.ins C dx fs)
section
variable {X : Cx} {CX : CXT} {n : Nat} {C g : Addr} {sp : Sp} {E : XK} {pins : List (Addr × Obj)} {σ : L2.St} {H : Hp} {s : Shared}
theorem insO_at {a : Addr} (I : Inv X pins σ H s) (h : InsO H a C) : ∃ ox od, PySem.W.InstAt s.heap a ox C od := by
  obtain ⟨dx, fs, h⟩ := h
  obtain ⟨mA, O, _⟩ := ins_get I.hok h
  obtain ⟨od, J, _⟩ := O.look
  exact ⟨_, _, J⟩
/-- x op y, both of the class -/
def rB2 (C : Addr) (sp : Sp) (E : XK) : R2 := fun x y H Q => ∃ a b, x = .ref a ∧ y = .ref b ∧ InsO H a C ∧ InsO H b C ∧ sp [x, y] H Q E
theorem op_bin2 {op : Operator} (hc : PySem.W.selfFirst X.K C = true) (hs : PySem.W.findIn X.K (.ref C) (PySem.dunder op.info.2) = some (some (.ref g))) (hf : PySem.W.isFn X.K (.ref g) = true) (F : FnR X.prog X.w X.K X.mg X.base CX n g sp) (hr : Room n X.A) (hx : Passes CX X E) :
    OpR X (binaryOp op) (rB2 C sp E) := by
  intro pins s σ H x y v u Q I rx ry h
  obtain ⟨a, b, rfl, rfl, ha, hb, q⟩ := h
  cases (show v = Value.ref a from rx)
  cases (show u = Value.ref b from ry)
  obtain ⟨ox, od, J⟩ := insO_at I ha
  obtain ⟨ox', od', J'⟩ := insO_at I hb
  obtain ⟨m, hF⟩ := I.fr
  refine PySem.W.binop_K hF I.ok.mod.kin J J'.type hc hs hf ?_
  refine wpAny_mono (wpAny_call (run_fnR (us := [.ref a, .ref b]) (vs := [.ref a, .ref b]) F hr hx I (.cons rfl (.cons rfl .nil)) q)) (fun w s' z => ?_) fun _ _ x => x
  obtain ⟨z', H', I', rz, qz⟩ := z
  exact SlX.cmpback rz ⟨z', H', I', rz, qz⟩
/-- x op i, an int on the right -/
def rBI (C : Addr) (sp : Sp) (E : XK) : R2 := fun x y H Q => ∃ a i, x = .ref a ∧ y = .int i ∧ InsO H a C ∧ sp [x, y] H Q E
theorem op_binI {op : Operator} {fo ro rc : Option Value} (hc : PySem.W.selfFirst X.K C = true) (hs : PySem.W.findIn X.K (.ref C) (PySem.dunder op.info.2) = some (some (.ref g))) (hf : PySem.W.isFn X.K (.ref g) = true)
    (hrc : PySem.W.findIn X.K (.ref C) (dunderR op.info.2) = some rc) (hp : rc = none ∨ ∃ g : Addr, rc = some (.ref g)) (h1 : PySem.W.findIn X.K (.type "int") (PySem.dunder op.info.2) = some fo) (h2 : PySem.W.findIn X.K (.type "int") (dunderR op.info.2) = some ro) (hsub : PySem.W.subIn X.K (.type "int") (.ref C) = some false)
    (F : FnR X.prog X.w X.K X.mg X.base CX n g sp) (hr : Room n X.A) (hx : Passes CX X E) : OpR X (binaryOp op) (rBI C sp E) := by
  intro pins s σ H x y v u Q I rx ry h
  obtain ⟨a, i, rfl, rfl, ha, q⟩ := h
  cases (show v = Value.ref a from rx)
  obtain ⟨t, rfl⟩ := (show ∃ t, u = Value.int i t from ry)
  obtain ⟨ox, od, J⟩ := insO_at I ha
  obtain ⟨m, hF⟩ := I.fr
  refine PySem.W.ksp_binT (T := "int") hF I.ok.mod.kin J rfl hc hs hf hrc hp h1 h2 hsub ?_
  refine wpAny_mono (wpAny_call (run_fnR (us := [.ref a, .int i t]) (vs := [.ref a, .int i]) F hr hx I (.cons rfl (.cons ⟨t, rfl⟩ .nil)) q)) (fun w s' z => ?_) fun _ _ x => x
  obtain ⟨z', H', I', rz, qz⟩ := z
  exact SlX.cmpback rz ⟨z', H', I', rz, qz⟩
/-- what the class and int say of the reflected operator -/
def RefO (K : PySem.W.Frag) (C : Addr) (nm : String) : Prop := ∃ rc fo ro : Option Value, PySem.W.findIn K (.ref C) (dunderR nm) = some rc ∧ (rc = none ∨ ∃ g : Addr, rc = some (.ref g)) ∧ PySem.W.findIn K (.type "int") (PySem.dunder nm) = some fo ∧ PySem.W.findIn K (.type "int") (dunderR nm) = some ro
theorem op_binX {op : Operator} (hc : PySem.W.selfFirst X.K C = true) (hs : PySem.W.findIn X.K (.ref C) (PySem.dunder op.info.2) = some (some (.ref g))) (hf : PySem.W.isFn X.K (.ref g) = true) (hR : RefO X.K C op.info.2) (hsub : PySem.W.subIn X.K (.type "int") (.ref C) = some false)
    (F : FnR X.prog X.w X.K X.mg X.base CX n g sp) (hr : Room n X.A) (hx : Passes CX X E) : OpR X (binaryOp op) (rBI C sp E) := by
  obtain ⟨rc, fo, ro, h0, hp, h1, h2⟩ := hR
  exact op_binI hc hs hf h0 hp h1 h2 hsub F hr hx
/-- -x -/
def rUO (C : Addr) (sp : Sp) (E : XK) : V → Hp → VK → Prop := fun x H Q => ∃ a, x = .ref a ∧ InsO H a C ∧ sp [x] H Q E
theorem un_negO (hs : PySem.W.findIn X.K (.ref C) "__neg__" = some (some (.ref g))) (hf : PySem.W.isFn X.K (.ref g) = true) (F : FnR X.prog X.w X.K X.mg X.base CX n g sp) (hr : Room n X.A) (hx : Passes CX X E) : UnR X (unaryOp .USub) (rUO C sp E) := by
  intro pins s σ H x v Q I rx h
  obtain ⟨a, rfl, ha, q⟩ := h
  cases (show v = Value.ref a from rx)
  obtain ⟨ox, od, J⟩ := insO_at I ha
  obtain ⟨m, hF⟩ := I.fr
  exact PySem.W.ksp_neg hF I.ok.mod.kin J hs hf (wpAny_call (run_fnR (us := [.ref a]) (vs := [.ref a]) F hr hx I (.cons rfl .nil) q))
theorem un_invO (hs : PySem.W.findIn X.K (.ref C) "__invert__" = some (some (.ref g))) (hf : PySem.W.isFn X.K (.ref g) = true) (F : FnR X.prog X.w X.K X.mg X.base CX n g sp) (hr : Room n X.A) (hx : Passes CX X E) : UnR X (unaryOp .Invert) (rUO C sp E) := by
  intro pins s σ H x v Q I rx h
  obtain ⟨a, rfl, ha, q⟩ := h
  cases (show v = Value.ref a from rx)
  obtain ⟨ox, od, J⟩ := insO_at I ha
  obtain ⟨m, hF⟩ := I.fr
  exact PySem.W.ksp_inv hF I.ok.mod.kin J hs hf (wpAny_call (run_fnR (us := [.ref a]) (vs := [.ref a]) F hr hx I (.cons rfl .nil) q))
/-- x op y, a comparison by the class's own def; y of the class, too -/
theorem op_cmp2 {op : CmpOp} (hop : ∀ a b, compareOp op a b = richCompare op a b) (hs : PySem.W.findIn X.K (.ref C) (cmpInfo op).2.1 = some (some (.ref g))) (hf : PySem.W.isFn X.K (.ref g) = true) (hn : PySem.W.notFirst X.K C (.ref C) = true) (F : FnR X.prog X.w X.K X.mg X.base CX n g sp)
    (hr : Room n X.A) (hx : Passes CX X E) : OpR X (compareOp op) (rB2 C sp E) := by
  intro pins s σ H x y v u Q I rx ry h
  obtain ⟨a, b, rfl, rfl, ha, hb, q⟩ := h
  cases (show v = Value.ref a from rx)
  cases (show u = Value.ref b from ry)
  obtain ⟨ox, od, J⟩ := insO_at I ha
  obtain ⟨ox', od', J'⟩ := insO_at I hb
  obtain ⟨m, hF⟩ := I.fr
  rw [hop]
  refine PySem.W.cmp_K (op := op) (tb := .ref C) hr.units0 hF I.ok.mod.kin J J'.type hn hs hf ?_
  refine wpAny_mono (wpAny_call (run_fnR (us := [.ref a, .ref b]) (vs := [.ref a, .ref b]) F hr hx I (.cons rfl (.cons rfl .nil)) q)) (fun w s' z => ?_) fun _ _ x => x
  obtain ⟨z', H', I', rz, qz⟩ := z
  exact SlX.cmpback rz ⟨z', H', I', rz, qz⟩
end
end Eb

/-! ## enumerate(t), t a tuple -/
namespace Eb
open PySem PySem.Spec PyProof.Rows L2
set_option maxRecDepth 100000
theorem meets_enum1 {v : Value} {o : Obj} {G : Heap → Prop} (B : Begins v o G) :
    Meets (Builtin.«enumerate.__new__» ⟨[.type "enumerate", v], []⟩) (fun _ R s => G s.heap ∧
      R (.ok (.ret (.ref (s.heap.push o).objs.size))) { s with heap := (s.heap.push o).push { cls := .type "enumerate", data := .fields #[.none, .bool false, .ref s.heap.objs.size, rawInt 0, .none, .none] } }) :=
  .of_wp fun prog w A R s h => by
    obtain ⟨hp, g, d, tk, os⟩ := s
    obtain ⟨h1, h⟩ := h
    have hsub := sub_enumerate
    have it : ∀ {A' : Around} {E : Value → Shared → Prop} {Q : Value → Shared → Prop}, Q (.ref hp.objs.size) ⟨hp.push o, g, d, tk, os⟩ → wpAny (model prog w) A' (pyIter v) Q E ⟨hp, g, d, tk, os⟩ :=
      fun q => B.iter prog w _ _ ⟨hp, g, d, tk, os⟩ _ h1 q
    wp_walk using it
    refine wpAny_stack_any fun st => wpAny_pure ?_
    split
    · rename_i c _ _ _ _ _
      cases (c == Value.type "enumerate") <;> (wp_walk using it; exact ⟨_, rfl, h⟩)
    · wp_walk using it
      exact ⟨_, rfl, h⟩
theorem call_enum1 {prog : Program} {w : World} {A : Around} {E : Value → Shared → Prop} {s : Shared} {v : Value} {o : Obj} {G : Heap → Prop} {Q : Value → Shared → Prop} (B : Begins v o G) (h1 : G s.heap)
    (h : ∀ h', IsEnum h' (s.heap.objs.size + 1) s.heap.objs.size 0 .none → h'.get? s.heap.objs.size = some o → (∀ b o, s.heap.get? b = some o → h'.get? b = some o) → Q (.ref (s.heap.objs.size + 1)) { s with heap := h' }) :
    wpAny (model prog w) A (call (.type "enumerate") [v]) Q E s := by
  refine callType_new F.called_enumerate (by decide) (F.typeCall_enumerate_1 _) (F.newCall_enumerate_1 _) (fun obj => F.args_object_init_2 obj _) F.entry_enumerate_new (meets_enum1 B) ⟨h1, ?_⟩
  have hz : (s.heap.push o).objs.size = s.heap.objs.size + 1 := Heap.size_push ..
  show _ ∧ _
  rw [hz]
  have he : IsEnum ((s.heap.push o).push { cls := .type "enumerate", data := .fields #[.none, .bool false, .ref s.heap.objs.size, rawInt 0, .none, .none] }) (s.heap.objs.size + 1) s.heap.objs.size 0 .none := by
    have z := Heap.get?_push_size (s.heap.push o) (o := { cls := .type "enumerate", data := .fields #[.none, .bool false, .ref s.heap.objs.size, rawInt 0, .none, .none] }) rfl
    rw [hz] at z
    exact z
  exact ⟨⟨_, he, rfl⟩, h _ he (Heap.get?_push_of_some _ (Heap.get?_push_size _ B.free)) fun b o x => Heap.get?_push_of_some _ (Heap.get?_push_of_some _ x)⟩
theorem enumT_end {prog : Program} {w : World} {A : Around} {E : Value → Shared → Prop} {s : Shared} {e it t : Addr} {i : Nat} {items : Array Value} {old : Value} {k : Int} {Q : Option Value → Shared → Prop} (hh : A.handled = none) (he : IsEnum s.heap e it k old)
    (hit : s.heap.IsTupleIter it t i) (ht : IsTup s.heap t items) (hi : items.size ≤ i) (hQ : ∀ h', Heap.ExtBut it s.heap h' → Q none { s with heap := h' }) : wpAny (model prog w) A (pyNext (.ref e)) Q E s := by
  have hT : s.TypeIs (.ref e) "enumerate" := ⟨_, he, rfl⟩
  unfold pyNext
  refine wpAny_bind (wpAny_attempt (wpAny_callSpecial?_slot (name := Str.ofString "__next__") hT F.slot_enumerate_next (wpAny_call_entry F.slot_enumerate_next hT F.entry_enumerate_next ?_ (F.args_enumerate_next_1 _))))
  show wpAny _ _ (field (.ref e) 2 >>= _) _ _ _
  refine wpAny_bind (wpAny_field he rfl (x := .ref it) rfl (wpAny_bind (wpAny_nextOf_tuple_end (by exact hh) hit (show s.heap.IsTuple t items from ht) (by simpa using hi) fun h' x hx hs => ?_)))
  obtain ⟨o, ho, hc⟩ := hs
  exact wpAny_bind (wpAny_isInstance (T := "StopIteration") (b := true) ⟨o, ho, hc⟩ isSubtype_stop (wpAny_pure (hQ _ hx)))
/-- the tuple at a as it stands at each turn, each item in a new pair -/
def IteT (K : PySem.W.Frag) (a : Addr) : It :=
  ⟨fun i H => ∃ (xs : List V) (x : V), SqT K H a xs ∧ xs[i]? = some x, fun i H v H' => ∃ T x, v = .ref T ∧ H T = none ∧ H' = upd H T (.tup [.int (i : Nat), x]) ∧ ∀ xs, SqT K H a xs → xs[i]? = some x, fun i H => ∃ xs : List V, SqT K H a xs ∧ xs.length ≤ i⟩
theorem turn_enumT {P : Program} {w : World} {K : PySem.W.Frag} {elts : List Expr} {kk : Nat} {tpos : Pos} (a e it : Addr) :
    Turn P w K (.Tuple elts kk tpos) (IteT K a) [e, it] e (fun i h => (∃ old, IsEnum h e it ((i : Nat) : Int) old) ∧ h.IsTupleIter it a i ∧ e ≠ it) where
  mem := by simp
  obj := fun i h st b hb => by
    obtain ⟨⟨old, he⟩, ⟨o, ho, hc, hd⟩, _⟩ := st
    have e' : b = e ∨ b = it := by simpa using hb
    rcases e' with rfl | rfl
    · exact ⟨_, he, fun v q => nomatch q⟩
    · exact ⟨o, ho, fun v q => by rw [hd] at q; cases q⟩
  keep := fun i h h' st k => by
    obtain ⟨⟨old, he⟩, hi, hne⟩ := st
    exact ⟨⟨old, k e (by simp) _ he⟩, hi.at fun o q => k it (by simp) o q, hne⟩
  item := by
    intro X hP hw hK hc i pins s σ H E I hf st hg
    subst hP hw hK
    obtain ⟨⟨old, he⟩, hit, hne⟩ := st
    obtain ⟨xs, x, hq, hx⟩ := hg
    obtain ⟨its, rv, p, hz⟩ := I.tuple hq
    obtain ⟨u, hu, ru⟩ := rv.get hx
    have hel : e < s.heap.objs.size := Heap.lt_size he
    have hil : it < s.heap.objs.size := by
      obtain ⟨_, q, _⟩ := hit
      exact Heap.lt_size q
    have nit : a ≠ it := fun z => by
      obtain ⟨o1, q1, c1, _⟩ := hit
      obtain ⟨o2, q2, c2, _⟩ := p
      rw [z, q1] at q2
      cases q2
      rw [c1] at c2
      exact absurd (Value.type.inj c2) (by decide)
    have nea : e ≠ a := fun z => by
      obtain ⟨o2, q2, c2, _⟩ := p
      have he' : s.heap.get? e = _ := he
      rw [z, q2] at he'
      cases he'
      exact absurd (Value.type.inj c2) (by decide)
    have hi : i < its.toArray.size := by
      rw [List.size_toArray]
      exact (List.getElem?_eq_some_iff.mp hu).1
    refine wpAny_pyNext_enum_itemC (Draws.tuple (by exact I.ok.hd hc) it a nit its.toArray) he ⟨hit, p⟩ hi hne (by simp [hne, nea]) fun y h' tk hy ho hst hT hsz hk => ?_
    have ey : y = u := by
      have z : its[i]? = some y := by simpa using hy
      rw [hu] at z
      exact (Option.some.inj z).symm
    subst ey
    refine ⟨_, rfl, wpAny_letOwnedTupleGo_enum (s := { s with heap := h', toks := tk + 1 }) ho fun h'' he' sb => ?_⟩
    have hT2 : h''.get? s.heap.objs.size = some { cls := .type "tuple", data := .seq #[.int i tk, y] } := (sb.2 _ (Nat.ne_of_gt hel)).trans hT
    have new : ObjOk X.prog X.w (upd H s.heap.objs.size (.tup [.int (i : Nat), x])) h'' s.heap.objs.size (.tup [.int (i : Nat), x]) :=
      ⟨by show 2 ≤ sizeLine; decide, [.int i tk, y], .cons ⟨_, rfl⟩ (.cons ru .nil), ⟨_, hT2, rfl, _, rfl⟩⟩
    have I1 : Inv X pins σ (upd H s.heap.objs.size (.tup [.int (i : Nat), x])) { s with heap := h'', toks := tk + 1 } :=
      I.turnedNew (ch := [e, it]) (fun b ob hb q => (sb.2 b (fun z => hb (by simp [z]))).trans (hk b ob (fun z => hb (by simp [z])) (fun z => hb (by simp [z])) q)) hf (Nat.le_refl _) new
    refine ⟨.ref s.heap.objs.size, _, I1, rfl, ⟨_, x, rfl, I.hok.fresh (Nat.le_refl _), rfl, fun ys hy' => by rw [I.tuple_inj hy' hq]; exact hx⟩, ⟨⟨y, ?_⟩, hst.1.at fun o q => (sb.2 it (Ne.symm hne)).trans q, hne⟩, fun b hb => ?_⟩
    · have e1 : ((i + 1 : Nat) : Int) = (i : Int) + 1 := by omega
      rw [e1]
      exact he'
    · have hb' : b < s.heap.objs.size := by
        have e' : b = e ∨ b = it := by simpa using hb
        rcases e' with rfl | rfl
        · exact hel
        · exact hil
      rw [upd_ne (Nat.ne_of_lt hb')]
      exact (hf b hb).1
  done := by
    intro X hP hw hK hc i pins s σ H E I hf st hg
    subst hP hw hK
    obtain ⟨⟨old, he⟩, hit, hne⟩ := st
    obtain ⟨xs, hq, hx⟩ := hg
    obtain ⟨its, rv, p, hz⟩ := I.tuple hq
    obtain ⟨f0, f1, f2, f3, f4, f5⟩ := hf it (by simp)
    have hl := rv.length
    exact enumT_end (I.ok.hd hc) he hit p (by rw [List.size_toArray]; omega) fun h' eb => ⟨rfl, I.turned (t' := s.toks) (fun b o hb q => eb b o hb q) f0 f1 f3 f4 f5⟩
  self := fun A i s Q E st h => by
    obtain ⟨⟨_, he⟩, _⟩ := st
    exact wpAny_pyIter_enum he h
def iEnumT (K : PySem.W.Frag) (ta : TA) : TI := fun σ H R => ta σ H fun vs H1 => ∃ a xs, vs = [.ref a] ∧ SqT K H1 a xs ∧ R (IteT K a) H1
theorem pi_enumT {X : Cx} {e : Expr} {ta : TA} {p pos tpos : Pos} {elts : List Expr} {kk : Nat} (hg : Gl X "enumerate") (hm : X.mg "enumerate" = none) (ha : PA X [e] ta) (hs : starEach [e] X.env = [(false, eval e X.env)] := by rfl) :
    PI X (.Tuple elts kk tpos) (.Call (.Name "enumerate" p) [e] [] pos) (iEnumT X.K ta) := by
  refine ⟨fun pins s σ H R I h => Call_ (ld_blt I hg hm boot_enumerate (PyProof.Rows.callWith_type1 (thn (ha.run pos pins s σ H _ I h) fun us s1 hh => ?_) hs rfl))⟩
  obtain ⟨vs, H1, I1, r1, a, xs, rfl, hq, q⟩ := hh
  rw [Vals.ref1 r1]
  obtain ⟨its, rv, pt, hz⟩ := I1.tuple hq
  refine call_enum1 (begins_tuple a its.toArray) pt fun h' he hit hk => wpAny_pyIter_enum he ?_
  have I2 : Inv X pins σ H1 { s1 with heap := h' } := I1.kept (t' := s1.toks) hk
  refine ⟨s1.heap.objs.size + 1, [s1.heap.objs.size + 1, s1.heap.objs.size], _, _, H1, rfl, I2, turn_enumT a (s1.heap.objs.size + 1) s1.heap.objs.size, ⟨⟨.none, he⟩, ⟨_, hit, rfl, rfl⟩, Nat.succ_ne_self _⟩, fun b hb => ?_, q⟩
  have e' : b = s1.heap.objs.size + 1 ∨ b = s1.heap.objs.size := by simpa using hb
  have hle : s1.heap.objs.size ≤ b := by
    rcases e' with z | z
    · rw [z]; exact Nat.le_add_right _ _
    · rw [z]; exact Nat.le_refl _
  exact I1.fpOk hle (I1.hok.fresh hle)
theorem walk_enumT {K : PySem.W.Frag} {a : Addr} {xs : List V} : Walk (IteT K a) xs.length (fun H => SqT K H a xs) (YPair (fun i => some (.int (i : Nat))) (fun i => xs[i]?)) := by
  refine ⟨fun i _ hi q => ⟨xs, xs[i], q, by simp [hi]⟩, fun _ q => ⟨xs, q, Nat.le_refl _⟩, fun i H v H' _ q y => ?_⟩
  obtain ⟨T, x, h1, h2, h3, h4⟩ := y
  exact ⟨T, .int (i : Nat), x, h1, h2, h3, rfl, h4 xs q⟩
end Eb

/-! ## own layer: an int on the left of an instance of an own class: int declines, the class's reflected method is asked -/
namespace Eb
open PySem PySem.Spec PySem.W PyProof.Rows
section
variable {prog : Program} {w : World} {A : Around} {E : Value → Shared → Prop} {s : Shared} {K : Frag} {x dx C L f g : Addr} {h₀ : Heap} {m : Str → Option Value} {od : Option Obj}
theorem asInt_ref {M : Model} {Q : Option Int → Shared → Prop} (h : s.heap.get? x = some (instObj C dx)) (q : Q none s) : wpAny M A (asInt? (.ref x)) Q E s := by
  unfold asInt?
  exact wpAny_bind (wpAny_load h (wpAny_pure q))
theorem intBinary_ref {M : Model} {name : String} {g : Int → Int → Sem Fin} {i : Int} {t : Tok} {Q : Fin → Shared → Prop} (hn : slotArgs name 1 ⟨[.int i t, .ref x], []⟩ = pure (.int i t, [.ref x])) (h : s.heap.get? x = some (instObj C dx)) (q : Q (.done (.ret .notImplemented)) s) : wpAny M A (Builtin.Int.intBinary name g false ⟨[.int i t, .ref x], []⟩) Q E s := by
  unfold Builtin.Int.intBinary
  rw [hn]
  refine wpAny_bind (wpAny_pure ?_)
  refine wpAny_bind (m := Builtin.Int.intOfSelf (.int i t)) (wpAny_pure ?_)
  refine wpAny_bind (asInt_ref h ?_)
  refine wpAny_bind (wpAny_rule ?_)
  exact wpAny_pure q
/-- what int says of an operator whose other side is such an instance -/
structure Declines (nm idl : String) : Prop where
  fills : fillsNumberSlot (.type "int") nm = pure true
  slot : Slot "int" (PySem.dunder nm) idl
  no : ∀ (prog : Program) (w : World) (A : Around) (E : Value → Shared → Prop) (s : Shared) (i : Int) (t : Tok) (x C dx : Addr) (Q : Value → Shared → Prop), s.heap.get? x = some (instObj C dx) → Q .notImplemented s → wpAny (model prog w) A (call (.builtin idl) [.int i t, .ref x]) Q E s
theorem declines_mul : Declines "mul" "int.__mul__" where
  fills := PySem.F.fills_int_mul
  slot := PySem.F.slot_int_mul
  no := fun prog w A E s i t x C dx Q h q => by
    refine wpAny_call (codeAny_call_builtin PySem.F.slot_int_mul.plain PySem.F.entry_int_mul (PySem.F.slot_int_mul.check _ _ _ _ _ _ _ _ (typeIs_int s i t) (PySem.F.args_int_mul_2 _ _) ?_))
    unfold Builtin.«int.__mul__»
    exact intBinary_ref rfl h q
theorem declines_add : Declines "add" "int.__add__" where
  fills := PySem.F.fills_int_add
  slot := PySem.F.slot_int_add
  no := fun prog w A E s i t x C dx Q h q => by
    refine wpAny_call (codeAny_call_builtin PySem.F.slot_int_add.plain PySem.F.entry_int_add (PySem.F.slot_int_add.check _ _ _ _ _ _ _ _ (typeIs_int s i t) (PySem.F.args_int_add_2 _ _) ?_))
    unfold Builtin.«int.__add__»
    exact intBinary_ref rfl h q
theorem declines_sub : Declines "sub" "int.__sub__" where
  fills := PySem.F.fills_int_sub
  slot := PySem.F.slot_int_sub
  no := fun prog w A E s i t x C dx Q h q => by
    refine wpAny_call (codeAny_call_builtin PySem.F.slot_int_sub.plain PySem.F.entry_int_sub (PySem.F.slot_int_sub.check _ _ _ _ _ _ _ _ (typeIs_int s i t) (PySem.F.args_int_sub_2 _ _) ?_))
    unfold Builtin.«int.__sub__»
    exact intBinary_ref rfl h q
theorem bin_IR {op : Operator} {idl : String} {i : Int} {t : Tok} {Q : Value → Shared → Prop} (F : Fr h₀ L s.heap m) (X₀ : K.In h₀) (I : PySem.W.InstAt s.heap x (instObj C dx) C od) (hc : selfFirst K C = true) (D : Declines op.info.2 idl)
    (hs : findIn K (.ref C) (PySem.dunder op.info.2) = some (some (.ref g))) (hr : findIn K (.ref C) (dunderR op.info.2) = some (some (.ref f))) (hf : isFn K (.ref f) = true) (hsub : subIn K (.ref C) (.type "int") = some false)
    (h : wpAny (model prog w) A (call (.ref f) [.ref x, .int i t]) (PySem.W.CmpBack Q) E s) : wpAny (model prog w) A (binaryOp op (.int i t) (.ref x)) Q E s := by
  have X := X₀.keeps F.keep
  obtain ⟨cd, rest, hcd, hm⟩ := ksp_first hc
  rcases hi : op.info with ⟨sym, nm'⟩
  rw [hi] at hs hr D
  dsimp only at hs hr D
  have one := ksp_try X I hr hf h
  have at_ := I.at_
  obtain ⟨hh, gg, d, tt, os⟩ := s
  have L1 : Looks (model prog w) hh (typeOf (.int i t)) (.type "int") := Looks.of_pure rfl
  have L2 : Looks (model prog w) hh (typeOf (.ref x)) (.ref C) := I.type
  have L3 : Looks (model prog w) hh (fillsNumberSlot (.type "int") nm') true := Looks.of_pure D.fills
  have L4 : Looks (model prog w) hh (fillsNumberSlot (.ref C) nm') true := fills_K X hcd hm hs
  have L5 : Looks (model prog w) hh (isSubtype (.ref C) (.type "int")) false := looks_subIn X hsub
  have L6 : Looks (model prog w) hh (numberSlotInPython (.type "int") nm') false := Looks.of_pure rfl
  have hne : (Value.type "int" == Value.ref C) = false := Bool.eq_false_iff.mpr fun q => by cases beq_iff_eq.mp q
  simp only [binaryOp, hi]
  refine wpAny_holding (wpAny_bind ?_)
  unfold binaryOp1
  refine wpAny_bind (L1.at (wpAny_bind (L2.at (wpAny_bind (L3.at ?_)))))
  simp only [hne, Bool.false_eq_true, if_false]
  ksp_lk
  refine wpAny_tryMethod_declines (typeIs_int _ i t) D.slot (D.no _ _ _ _ _ _ _ _ _ _ _ at_ ⟨rfl, ?_⟩)
  ksp_lk
  refine wpAny_mono one (fun r s' hr' => ?_) fun _ _ e => e
  obtain ⟨v, rfl, hq⟩ := hr'
  ksp_lk
  exact hq
end
end Eb

/-! ## own layer: x op= y of an own class without in-place methods: as x op y -/
namespace Eb
open PySem PySem.Spec PySem.W PyProof.Rows
section
variable {prog : Program} {w : World} {A : Around} {E : Value → Shared → Prop} {s : Shared} {K : Frag} {x y dx C L f g : Addr} {h₀ : Heap} {m : Str → Option Value} {ox oy : Obj} {od od' : Option Obj}
/-- the class has no such in-place method, nor has object -/
def NoI (K : Frag) (C : Addr) (nm : String) : Prop := (∃ cd, clsIn K C = some cd ∧ cd.mro = [.ref C, .type "object"]) ∧ findIn K (.ref C) (dunderI nm) = some none ∧ findIn K (.type "object") (dunderI nm) = some none
theorem NoI.fills {M : Model} {h : Heap} {nm : String} {add : Bool} (X : K.In h) (n : NoI K C nm) : Looks M h (fillsInplaceSlot (.ref C) nm add) false := by
  obtain ⟨⟨cd, hcd, hm⟩, h1, h2⟩ := n
  intro A Q E s k q
  have Lm : Looks M h (mroOf (.ref C)) cd.mro := (looks_clsIn X hcd).andThen (f := fun cd => pure cd.mro) .now
  have Lm' := Lm.keeps k
  obtain ⟨hh, gg, d, tt, os⟩ := s
  have X' : K.In hh := X.keeps k
  have L1 : Looks M hh (typeLookup (.ref C) (dunderI nm)) none := looks_findIn X' h1
  have L2 : Looks M hh (typeLookup (.type "object") (dunderI nm)) none := looks_findIn X' h2
  unfold fillsInplaceSlot
  refine wpAny_bind (Lm'.at ?_)
  rw [hm, List.anyM_cons, List.anyM_cons]
  repeat lk
  exact q
theorem ip_same {op : Operator} {Q : Value → Shared → Prop} (F : Fr h₀ L s.heap m) (X₀ : K.In h₀) (I : PySem.W.InstAt s.heap x ox C od) (I' : PySem.W.InstAt s.heap y oy C od') (hc : selfFirst K C = true) (n : NoI K C op.info.2)
    (hs : findIn K (.ref C) (PySem.dunder op.info.2) = some (some (.ref f))) (hf : isFn K (.ref f) = true) (h : wpAny (model prog w) A (call (.ref f) [.ref x, .ref y]) (PySem.W.CmpBack Q) E s) : wpAny (model prog w) A (inplaceOp op (.ref x) (.ref y)) Q E s := by
  have X := X₀.keeps F.keep
  obtain ⟨cd, rest, hcd, hm⟩ := ksp_first hc
  have one := ksp_try X I hs hf h
  obtain ⟨hh, gg, d, tt, os⟩ := s
  have L1 : Looks (model prog w) hh (typeOf (.ref x)) (.ref C) := I.type
  have L1' : Looks (model prog w) hh (typeOf (.ref y)) (.ref C) := I'.type
  have L2 : Looks (model prog w) hh (fillsInplaceSlot (.ref C) op.info.2 (op == .Add)) false := n.fills X
  have L3 : Looks (model prog w) hh (fillsNumberSlot (.ref C) op.info.2) true := fills_K X hcd hm hs
  unfold inplaceOp
  refine wpAny_holding ?_
  refine wpAny_bind (L1.at (wpAny_bind (L2.at ?_)))
  simp only [Bool.false_eq_true, if_false]
  refine wpAny_bind ?_
  unfold binaryOp1
  refine wpAny_bind (L1.at (wpAny_bind (L1'.at (wpAny_bind (L3.at ?_)))))
  simp only [beq_self_eq_true, if_true]
  ksp_lk
  refine wpAny_mono one (fun r s' hr' => ?_) fun _ _ e => e
  obtain ⟨v, rfl, hq⟩ := hr'
  ksp_lk
  exact hq
/-- .. an int on the right -/
theorem ip_int {op : Operator} {i : Int} {t : Tok} {fo ro rc : Option Value} {Q : Value → Shared → Prop} (F : Fr h₀ L s.heap m) (X₀ : K.In h₀) (I : PySem.W.InstAt s.heap x ox C od) (hc : selfFirst K C = true) (n : NoI K C op.info.2)
    (hs : findIn K (.ref C) (PySem.dunder op.info.2) = some (some (.ref f))) (hf : isFn K (.ref f) = true) (hr : findIn K (.ref C) (dunderR op.info.2) = some rc) (hp : rc = none ∨ ∃ g : Addr, rc = some (.ref g)) (h1 : findIn K (.type "int") (PySem.dunder op.info.2) = some fo) (h2 : findIn K (.type "int") (dunderR op.info.2) = some ro) (hsub : subIn K (.type "int") (.ref C) = some false)
    (h : wpAny (model prog w) A (call (.ref f) [.ref x, .int i t]) (PySem.W.CmpBack Q) E s) : wpAny (model prog w) A (inplaceOp op (.ref x) (.int i t)) Q E s := by
  have X := X₀.keeps F.keep
  obtain ⟨cd, rest, hcd, hm⟩ := ksp_first hc
  have one := ksp_try X I hs hf h
  obtain ⟨hh, gg, d, tt, os⟩ := s
  have L1 : Looks (model prog w) hh (typeOf (.ref x)) (.ref C) := I.type
  have L1' : Looks (model prog w) hh (typeOf (.int i t)) (.type "int") := Looks.of_pure rfl
  have L2 : Looks (model prog w) hh (fillsInplaceSlot (.ref C) op.info.2 (op == .Add)) false := n.fills X
  have L3 : Looks (model prog w) hh (fillsNumberSlot (.ref C) op.info.2) true := fills_K X hcd hm hs
  have L4 := ksp_fillsT (M := model prog w) (T := "int") X h1 h2
  have L5 : Looks (model prog w) hh (isSubtype (.type "int") (.ref C)) false := looks_subIn X hsub
  have L6 : Looks (model prog w) hh (numberSlotInPython (.ref C) op.info.2) true := ksp_inPy X hs hr hp
  have L7 : Looks (model prog w) hh (numberSlotInPython (.type "int") op.info.2) false := Looks.of_pure rfl
  have L8 : Looks (model prog w) hh (typeLookup (.type "int") (dunderR op.info.2)) ro := looks_findIn X h2
  generalize ((fo.isSome && !isSeqSlot fo) || (ro.isSome && !isSeqSlot ro)) = right at L4
  have hne : (Value.ref C == Value.type "int") = false := Bool.eq_false_iff.mpr fun q => by cases beq_iff_eq.mp q
  unfold inplaceOp
  refine wpAny_holding ?_
  refine wpAny_bind (L1.at (wpAny_bind (L2.at ?_)))
  simp only [Bool.false_eq_true, if_false]
  refine wpAny_bind ?_
  unfold binaryOp1
  refine wpAny_bind (L1.at (wpAny_bind (L1'.at (wpAny_bind (L3.at ?_)))))
  simp only [hne, Bool.false_eq_true, if_false]
  cases right <;>
  · ksp_lk
    refine wpAny_mono one (fun r s' hr' => ?_) fun _ _ e => e
    obtain ⟨v, rfl, hq⟩ := hr'
    ksp_lk
    exact hq
end
end Eb

/-! ## own layer: values without a heap. D: data as trees; Rep: a value stands for a tree; a def's slots as trees; what a reading comes to, without the heap -/
namespace Eb
open PySem PySem.Spec PyProof.Rows L2
/-- data: objects of own classes (by the class's number) hold their fields in the order in which they are first set -/
inductive D where
  | non | bl (b : Bool) | int (i : Int) | str (x : Str) | ty (n : String) | cl (c : Nat)
  | lst (xs : List D) | tup (xs : List D) | obj (c : Nat) (xs : List D)
  /-- a dict that stands still: its keys, its values -/
  | dic (ks : List Key) (xs : List D)
/-- a law's own classes -/
structure Tb where
  K : PySem.W.Frag
  C : Nat → Addr
  fl : Nat → List Str
  xf : Nat → Str
section
variable (B : Tb) (H : Hp)
mutual
def Rep : D → V → Prop
  | .non, v => v = .non
  | .bl b, v => v = .bl b
  | .int i, v => v = .int i
  | .str x, v => v = .str x
  | .ty n, v => v = .ty n
  | .cl c, v => v = .ref (B.C c)
  | .lst ds, v => ∃ a vs, v = .ref a ∧ H a = some (.lst vs) ∧ RepL ds vs
  | .tup ds, v => ∃ a vs, v = .ref a ∧ SqT B.K H a vs ∧ RepL ds vs
  | .obj c ds, v => ∃ a dx gs, v = .ref a ∧ H a = some (.ins (B.C c) dx gs) ∧ gs.map (·.1) = B.fl c ∧ RepL ds (gs.map (·.2))
  | .dic ks ds, v => ∃ a o kvs, v = .ref a ∧ H a = some (.frz o (.dK kvs)) ∧ kvs.map (·.1) = ks ∧ RepL ds (kvs.map (·.2))
def RepL : List D → List V → Prop
  | [], vs => vs = []
  | d :: ds, vs => ∃ v r, vs = v :: r ∧ Rep d v ∧ RepL ds r
end
end
section
variable {B : Tb} {H H' : Hp}
mutual
theorem Rep.mono (s : Same H H') : ∀ (d : D) (v : V), Rep B H d v → Rep B H' d v
  | .non, _, h => h
  | .bl _, _, h => h
  | .int _, _, h => h
  | .str _, _, h => h
  | .ty _, _, h => h
  | .cl _, _, h => h
  | .lst ds, _, ⟨a, vs, e, h, r⟩ => ⟨a, vs, e, s _ _ h, RepL.mono s ds vs r⟩
  | .tup ds, _, ⟨a, vs, e, h, r⟩ => ⟨a, vs, e, Same_seqT s h, RepL.mono s ds vs r⟩
  | .obj _ ds, _, ⟨a, dx, gs, e, h, n, r⟩ => ⟨a, dx, gs, e, s _ _ h, n, RepL.mono s ds _ r⟩
  | .dic _ ds, _, ⟨a, o, kvs, e, h, n, r⟩ => ⟨a, o, kvs, e, s _ _ h, n, RepL.mono s ds _ r⟩
theorem RepL.mono (s : Same H H') : ∀ (ds : List D) (vs : List V), RepL B H ds vs → RepL B H' ds vs
  | [], _, h => h
  | d :: ds, _, ⟨v, r, e, h1, h2⟩ => ⟨v, r, e, Rep.mono s d v h1, RepL.mono s ds r h2⟩
end
theorem Rep.up (s : Same H H') {d : D} {v : V} (h : Rep B H d v) : Rep B H' d v := Rep.mono s d v h
theorem RepL.up (s : Same H H') {d : List D} {v : List V} (h : RepL B H d v) : RepL B H' d v := RepL.mono s d v h
theorem RepL.len : ∀ {ds : List D} {vs : List V}, RepL B H ds vs → vs.length = ds.length
  | [], _, h => by rw [show _ = [] from h]; rfl
  | d :: ds, _, ⟨v, r, e, _, h⟩ => by rw [e, List.length_cons, List.length_cons, RepL.len h]
theorem RepL.get : ∀ {ds : List D} {vs : List V} {i : Nat} {d : D}, RepL B H ds vs → ds[i]? = some d → ∃ v, vs[i]? = some v ∧ Rep B H d v
  | [], _, _, _, _, e => by simp at e
  | d :: ds, _, 0, _, ⟨v, r, ev, h1, _⟩, e => by
    simp at e
    subst e
    exact ⟨v, by rw [ev]; rfl, h1⟩
  | d :: ds, _, i + 1, _, ⟨v, r, ev, _, h2⟩, e => by
    obtain ⟨w, h3, h4⟩ := RepL.get (i := i) h2 (by simpa using e)
    exact ⟨w, by rw [ev]; simpa using h3, h4⟩
theorem RepL.geti : ∀ {ds : List D} {vs : List V} {i : Nat} {v : V}, RepL B H ds vs → vs[i]? = some v → ∃ d, ds[i]? = some d ∧ Rep B H d v
  | [], _, _, _, h, e => by rw [show _ = [] from h] at e; simp at e
  | d :: ds, _, 0, _, ⟨v, r, ev, h1, _⟩, e => by
    rw [ev] at e
    simp at e
    subst e
    exact ⟨d, rfl, h1⟩
  | d :: ds, _, i + 1, _, ⟨v, r, ev, _, h2⟩, e => by
    rw [ev] at e
    obtain ⟨w, h3, h4⟩ := RepL.geti (i := i) h2 (by simpa using e)
    exact ⟨w, by simpa using h3, h4⟩
theorem RepL.app : ∀ {ds es : List D} {vs us : List V}, RepL B H ds vs → RepL B H es us → RepL B H (ds ++ es) (vs ++ us)
  | [], _, _, _, h, h2 => by rw [show _ = [] from h]; exact h2
  | d :: ds, _, _, _, ⟨v, r, e, h1, h2⟩, h3 => by
    subst e
    exact ⟨v, r ++ _, rfl, h1, RepL.app h2 h3⟩
theorem RepL.cons {d : D} {v : V} {ds : List D} {vs : List V} (h : Rep B H d v) (h2 : RepL B H ds vs) : RepL B H (d :: ds) (v :: vs) := ⟨v, vs, rfl, h, h2⟩
theorem RepL.nil : RepL B H [] [] := rfl
theorem RepL.one {d : D} {v : V} (h : Rep B H d v) : RepL B H [d] [v] := ⟨v, [], rfl, h, rfl⟩
theorem RepL.rev {ds : List D} {vs : List V} (h : RepL B H ds vs) : RepL B H ds.reverse vs.reverse := by
  induction ds generalizing vs with
  | nil =>
    rw [show vs = [] from h]
    rfl
  | cons d ds ih =>
    obtain ⟨v, r, rfl, h1, h2⟩ := h
    rw [List.reverse_cons, List.reverse_cons]
    exact (ih h2).app (.one h1)
theorem RepL.set {ds : List D} {vs : List V} {d : D} {v : V} {i : Nat} (h : RepL B H ds vs) (h1 : Rep B H d v) : RepL B H (ds.set i d) (vs.set i v) := by
  induction ds generalizing vs i with
  | nil =>
    rw [show vs = [] from h]
    rfl
  | cons c ds ih =>
    obtain ⟨u, r, rfl, h2, h3⟩ := h
    cases i with
    | zero => exact ⟨v, r, rfl, h1, h3⟩
    | succ i => exact ⟨u, _, rfl, h2, ih h3⟩
theorem RepL.drop {ds : List D} {vs : List V} (n : Nat) (h : RepL B H ds vs) : RepL B H (ds.drop n) (vs.drop n) := by
  induction ds generalizing vs n with
  | nil =>
    rw [show vs = [] from h]
    simp
    rfl
  | cons c ds ih =>
    obtain ⟨u, r, rfl, h2, h3⟩ := h
    cases n with
    | zero => exact ⟨u, r, rfl, h2, h3⟩
    | succ n => exact ih n h3
theorem RepL.take {ds : List D} {vs : List V} (n : Nat) (h : RepL B H ds vs) : RepL B H (ds.take n) (vs.take n) := by
  induction ds generalizing vs n with
  | nil =>
    rw [show vs = [] from h]
    simp
    rfl
  | cons c ds ih =>
    obtain ⟨u, r, rfl, h2, h3⟩ := h
    cases n with
    | zero => rfl
    | succ n => exact ⟨u, _, rfl, h2, ih n h3⟩
theorem RepL.rep {ds : List D} {vs : List V} (n : Nat) (h : RepL B H ds vs) : RepL B H (List.replicate n ds).flatten (List.replicate n vs).flatten := by
  induction n with
  | zero => rfl
  | succ n ih =>
    rw [List.replicate_succ, List.replicate_succ, List.flatten_cons, List.flatten_cons]
    exact h.app ih
theorem RepL.nil_inv {vs : List V} (h : RepL B H [] vs) : vs = [] := h
theorem RepL.cons_inv {d : D} {ds : List D} {vs : List V} (h : RepL B H (d :: ds) vs) : ∃ v r, vs = v :: r ∧ Rep B H d v ∧ RepL B H ds r := h
theorem RepL.ints : ∀ {ns : List Int} {vs : List V}, RepL B H (ns.map D.int) vs → vs = ns.map V.int
  | [], _, h => h
  | n :: ns, _, ⟨v, r, e, h1, h2⟩ => by rw [e, show v = .int n from h1, RepL.ints h2]; rfl
theorem RepL.of_ints : ∀ {ns : List Int}, RepL B H (ns.map D.int) (ns.map V.int)
  | [] => rfl
  | n :: ns => ⟨.int n, ns.map V.int, rfl, rfl, RepL.of_ints⟩
theorem RepL.strs : ∀ {ns : List Str} {vs : List V}, RepL B H (ns.map D.str) vs → vs = ns.map V.str
  | [], _, h => h
  | n :: ns, _, ⟨v, r, e, h1, h2⟩ => by rw [e, show v = .str n from h1, RepL.strs h2]; rfl
theorem RepL.of_strs : ∀ {ns : List Str}, RepL B H (ns.map D.str) (ns.map V.str)
  | [] => rfl
  | n :: ns => ⟨.str n, ns.map V.str, rfl, rfl, RepL.of_strs⟩
theorem RepL.bools : ∀ {ns : List Bool} {vs : List V}, RepL B H (ns.map D.bl) vs → vs = ns.map V.bl
  | [], _, h => h
  | n :: ns, _, ⟨v, r, e, h1, h2⟩ => by rw [e, show v = .bl n from h1, RepL.bools h2]; rfl
end

/-! ### hidden things -/
open Classical in
noncomputable def hid (G : Addr → Prop) (H : Hp) : Hp := fun a => if G a then none else H a
theorem hid_some {G : Addr → Prop} {H : Hp} {a : Addr} {o : HO} : hid G H a = some o ↔ ¬ G a ∧ H a = some o := by
  unfold hid
  by_cases g : G a
  · rw [if_pos g]
    exact ⟨fun h => (nomatch h), fun h => absurd g h.1⟩
  · rw [if_neg g]
    exact ⟨fun h => ⟨g, h⟩, fun h => h.2⟩
theorem hid_same {G : Addr → Prop} {H H' : Hp} (s : Same H H') : Same (hid G H) (hid G H') := fun a o h => by
  rw [hid_some] at h ⊢
  exact ⟨h.1, s _ _ h.2⟩
theorem hid_le {G : Addr → Prop} {H : Hp} : Same (hid G H) H := fun a o h => (hid_some.mp h).2
theorem hid_anti {G G' : Addr → Prop} {H : Hp} (g : ∀ a, G' a → G a) : Same (hid G H) (hid G' H) := fun a o h => by
  rw [hid_some] at h ⊢
  exact ⟨fun z => h.1 (g a z), h.2⟩
theorem hid_grow {G G' : Addr → Prop} {H H' : Hp} (s : ∀ a o, ¬ G a → H a = some o → ¬ G' a ∧ H' a = some o) : Same (hid G H) (hid G' H') := fun a o h => by
  rw [hid_some] at h ⊢
  exact s a o h.1 h.2

/-! ### a def's state -/
/-- Z: what the callers hide; M: what was there and may be changed here (the source of draws, self); H0: the heap at the entry; dl: the source of draws -/
structure Lx where
  B : Tb
  Z : Addr → Prop
  M : Addr → Prop
  H0 : Hp
  dl : Option (Addr × Addr)
/-- an own error: its class, what its one field holds -/
structure DX where
  c : Nat
  p : Option D
def RepX (B : Tb) (H : Hp) (x : DX) (cv : Value) (od : Option Addr) : Prop := cv = .ref (B.C x.c) ∧ match x.p with
  | none => od = none
  | some d => ∃ a v, od = some a ∧ H a = some (.xd [(B.xf x.c, v)]) ∧ Rep B H d v
theorem RepX.up {B : Tb} {H H' : Hp} {x : DX} {cv : Value} {od : Option Addr} (s : Same H H') (h : RepX B H x cv od) : RepX B H' x cv od := by
  obtain ⟨h1, h2⟩ := h
  refine ⟨h1, ?_⟩
  split
  · rename_i e
    rw [e] at h2
    exact h2
  · rename_i d e
    rw [e] at h2
    obtain ⟨a, v, z1, z2, z3⟩ := h2
    exact ⟨a, v, z1, s _ _ z2, z3.up s⟩
/-- a field of an instance that changes: a value; an own list; an own dict -/
inductive Mu where
  | va (d : D) | ow (ds : List D) | od (ks : List Key) (ds : List D)
/-- a slot: not known; a value; an own list that may change; self, being made; the source of draws; a caught error -/
inductive Sl where
  | un | va (d : D) | ow (ds : List D) | se (c : Nat) (ds : List D) | dl | er (a : Addr) (cls : Value) (od : Option Addr) (x : DX)
  /-- an own dict that may change; an own instance that may change -/
  | od (ks : List Key) (ds : List D) | mu (b : Bool) (c : Nat) (ms : List Mu)
  /-- the k-th argument, a list or a dict that may change: it was handed in -/
  | pm (k : Nat) (m : Mu)
/-- a mark by which the k-th argument is known -/
def mark (k : Nat) : HO := .lst [.int k]
abbrev Ow := Nat → Option Addr
def wput (W : Ow) (i : Nat) (o : Option Addr) : Ow := fun j => if j = i then o else W j
theorem wput_same {W : Ow} {i j : Nat} {o : Option Addr} (h : j = i) : wput W i o j = o := by unfold wput; rw [if_pos h]
theorem wput_ne {W : Ow} {i j : Nat} {o : Option Addr} (h : ¬ j = i) : wput W i o j = W j := by unfold wput; rw [if_neg h]
def Lx.G (Λ : Lx) (W : Ow) (a : Addr) : Prop := Λ.Z a ∨ Λ.M a ∨ ∃ i, W i = some a
noncomputable def Lx.vis (Λ : Lx) (W : Ow) (H : Hp) : Hp := hid (Λ.G W) H
/-- all but the own lists of this def -/
noncomputable def Lx.out (Λ : Lx) (H : Hp) : Hp := hid (fun a => Λ.Z a ∨ Λ.M a) H
/-- where W keeps the own thing in the k-th field of the instance in slot i -/
def sub (i k : Nat) : Nat := 2 * (1000 * k + i) + 1000
def Sub (j : Nat) : Prop := 1000 ≤ j ∧ j % 2 = 0
theorem sub_Sub {i k : Nat} : Sub (sub i k) := by unfold Sub sub; omega
theorem sub_inj {i k i' k' : Nat} (h : i < 1000) (h' : i' < 1000) (e : sub i k = sub i' k') : i = i' ∧ k = k' := by unfold sub at e; omega
/-- the mark of a list whose things may change (in the place of a class) -/
def lstC : Nat := 99999
/-- the object of a thing that changes: a list; an instance with its first fields -/
def Shp (B : Tb) (c n : Nat) (o : HO) (vs : List V) : Prop := (c = lstC ∧ o = .lst vs) ∨ (c ≠ lstC ∧ ∃ dx gs, o = .ins (B.C c) dx gs ∧ gs.map (·.1) = (B.fl c).take n ∧ vs = gs.map (·.2))
theorem Shp.ins {B : Tb} {c n : Nat} {o : HO} {vs : List V} (h : Shp B c n o vs) (hc : c ≠ lstC) : ∃ dx gs, o = .ins (B.C c) dx gs ∧ gs.map (·.1) = (B.fl c).take n ∧ vs = gs.map (·.2) := by
  rcases h with ⟨e, _⟩ | ⟨_, h⟩
  · exact absurd e hc
  · exact h
theorem Shp.lst {B : Tb} {c n : Nat} {o : HO} {vs : List V} (h : Shp B c n o vs) (hc : c = lstC) : o = .lst vs := by
  rcases h with ⟨_, e⟩ | ⟨n, _⟩
  · exact e
  · exact absurd hc n
def MuOk (Λ : Lx) (W : Ow) (H : Hp) (i k : Nat) (v : V) : Mu → Prop
  | .va d => Rep Λ.B (Λ.vis W H) d v
  | .ow ds => ∃ p vs, v = .ref p ∧ W (sub i k) = some p ∧ H p = some (.lst vs) ∧ RepL Λ.B (Λ.vis W H) ds vs
  | .od ks ds => ∃ p kvs, v = .ref p ∧ W (sub i k) = some p ∧ H p = some (.dK kvs) ∧ kvs.map (·.1) = ks ∧ RepL Λ.B (Λ.vis W H) ds (kvs.map (·.2))
def MusOk (Λ : Lx) (W : Ow) (H : Hp) (i : Nat) : Nat → List Mu → List V → Prop
  | _, [], vs => vs = []
  | k, m :: ms, vs => ∃ v r, vs = v :: r ∧ MuOk Λ W H i k v m ∧ MusOk Λ W H i (k + 1) ms r
def SlOk (Λ : Lx) (W : Ow) (σ : L2.St) (H : Hp) (i : Nat) : Sl → Prop
  | .un => True
  | .va d => ∃ v, σ[i]? = some (some v) ∧ Rep Λ.B (Λ.vis W H) d v
  | .ow ds => ∃ p vs, W i = some p ∧ σ[i]? = some (some (.ref p)) ∧ H p = some (.lst vs) ∧ RepL Λ.B (Λ.vis W H) ds vs ∧ ¬ Λ.M p
  | .se c ds => ∃ p dx gs, W i = some p ∧ σ[i]? = some (some (.ref p)) ∧ H p = some (.ins (Λ.B.C c) dx gs) ∧ (gs.map (·.1) = (Λ.B.fl c).take ds.length ∧ Λ.M p) ∧ RepL Λ.B (Λ.vis W H) ds (gs.map (·.2))
  | .dl => ∃ d l, Λ.dl = some (d, l) ∧ σ[i]? = some (some (.ref d))
  | .er a cls od x => σ[i]? = some (some (.ref a)) ∧ RepX Λ.B (Λ.vis W H) x cls od
  | .od ks ds => ∃ p kvs, W i = some p ∧ σ[i]? = some (some (.ref p)) ∧ H p = some (.dK kvs) ∧ kvs.map (·.1) = ks ∧ RepL Λ.B (Λ.vis W H) ds (kvs.map (·.2)) ∧ ¬ Λ.M p
  | .mu b c ms => σ.length ≤ 1000 ∧ ∃ p o vs, W i = some p ∧ σ[i]? = some (some (.ref p)) ∧ H p = some o ∧ (Shp Λ.B c ms.length o vs ∧ (Λ.M p ↔ b = true) ∧ ∀ k a, W (sub i k) = some a → ¬ Λ.M a) ∧ MusOk Λ W H i 0 ms vs
  | .pm k m => ∃ p, Λ.M p ∧ Λ.H0 p = some (mark k) ∧ W i = some p ∧ σ[i]? = some (some (.ref p)) ∧ match m with
    | .va _ => False
    | .ow ds => ∃ vs, H p = some (.lst vs) ∧ RepL Λ.B (Λ.vis W H) ds vs
    | .od ks ds => ∃ kvs, H p = some (.dK kvs) ∧ kvs.map (·.1) = ks ∧ RepL Λ.B (Λ.vis W H) ds (kvs.map (·.2))
structure StOk (Λ : Lx) (env : List Sl) (W : Ow) (σ : L2.St) (H : Hp) : Prop where
  len : σ.length = env.length
  sl : ∀ i s, env[i]? = some s → SlOk Λ W σ H i s
  fr : ∀ a o, ¬ Λ.M a → Λ.H0 a = some o → H a = some o
  mx : ∀ a, Λ.M a → H a ≠ none
  zx : ∀ a, Λ.Z a → H a ≠ none
  wx : ∀ i p, W i = some p → H p ≠ none ∧ ¬ Λ.Z p ∧ (Λ.H0 p = none ∨ Λ.M p)
  wi : ∀ i j p, W i = some p → W j = some p → i = j
  dl : ∀ d l, Λ.dl = some (d, l) → Deal H d l ∧ Λ.M d ∧ Λ.M l ∧ ∀ i, W i ≠ some d ∧ W i ≠ some l
  wf : ∃ n, ∀ m, n ≤ m → W m = none
section
variable {Λ : Lx} {env : List Sl} {W : Ow} {σ : L2.St} {H H' : Hp}
theorem StOk.fresh (S : StOk Λ env W σ H) {p : Addr} (h : H p = none) : ¬ Λ.G W p := by
  rintro (z | z | ⟨i, z⟩)
  · exact S.zx _ z h
  · exact S.mx _ z h
  · exact (S.wx _ _ z).1 h
theorem StOk.fresh0 (S : StOk Λ env W σ H) {p : Addr} (h : H p = none) : Λ.H0 p = none := by
  cases q : Λ.H0 p with
  | none => rfl
  | some o =>
    by_cases m : Λ.M p
    · exact absurd h (S.mx _ m)
    · rw [S.fr p o m q] at h
      cases h
theorem MuOk.gen {W' : Ow} {i k : Nat} {v : V} {m : Mu} (e : Same (Λ.vis W H) (Λ.vis W' H')) (hw : ∀ p, W (sub i k) = some p → W' (sub i k) = some p) (ho : ∀ p o, W (sub i k) = some p → H p = some o → H' p = some o) (h : MuOk Λ W H i k v m) : MuOk Λ W' H' i k v m := by
  cases m with
  | va d => exact Rep.mono e d v h
  | ow ds =>
    obtain ⟨p, vs, h0, h1, h2, h3⟩ := h
    exact ⟨p, vs, h0, hw _ h1, ho _ _ h1 h2, h3.up e⟩
  | od ks ds =>
    obtain ⟨p, kvs, h0, h1, h2, h3, h4⟩ := h
    exact ⟨p, kvs, h0, hw _ h1, ho _ _ h1 h2, h3, h4.up e⟩
theorem MusOk.gen {W' : Ow} {i : Nat} (e : Same (Λ.vis W H) (Λ.vis W' H')) (hw : ∀ k p, W (sub i k) = some p → W' (sub i k) = some p) (ho : ∀ k p o, W (sub i k) = some p → H p = some o → H' p = some o) : ∀ {ms : List Mu} {k : Nat} {vs : List V}, MusOk Λ W H i k ms vs → MusOk Λ W' H' i k ms vs
  | [], _, _, h => h
  | m :: ms, k, _, ⟨v, r, e1, h1, h2⟩ => ⟨v, r, e1, h1.gen e (hw k) (ho k), h2.gen e hw ho⟩
theorem MusOk.len {i : Nat} : ∀ {ms : List Mu} {k : Nat} {vs : List V}, MusOk Λ W H i k ms vs → vs.length = ms.length
  | [], _, _, h => by rw [show _ = [] from h]; rfl
  | m :: ms, k, _, ⟨v, r, e1, h1, h2⟩ => by rw [e1, List.length_cons, List.length_cons, h2.len]
/-- a slot stands while others change -/
theorem SlOk.genS {W' : Ow} {σ' : L2.St} {s : Sl} {i : Nat} (hl : σ'.length = σ.length) (hσ : σ'[i]? = σ[i]?) (e : Same (Λ.vis W H) (Λ.vis W' H')) (hw : ∀ j p, (j = i ∨ (σ.length ≤ 1000 ∧ ∃ k, j = sub i k)) → W j = some p → W' j = some p)
    (ho : ∀ j p o, (j = i ∨ (σ.length ≤ 1000 ∧ ∃ k, j = sub i k)) → W j = some p → H p = some o → H' p = some o) (h : SlOk Λ W σ H i s) (hn : ∀ k a, W' (sub i k) = some a → W (sub i k) = some a ∨ ¬ Λ.M a := by exact fun _ _ z => .inl z) : SlOk Λ W' σ' H' i s := by
  cases s with
  | un => trivial
  | va d =>
    obtain ⟨v, h1, h2⟩ := h
    exact ⟨v, hσ.trans h1, h2.up e⟩
  | ow ds =>
    obtain ⟨p, vs, h0, h1, h2, h3, h4⟩ := h
    exact ⟨p, vs, hw _ _ (.inl rfl) h0, hσ.trans h1, ho _ _ _ (.inl rfl) h0 h2, h3.up e, h4⟩
  | se c ds =>
    obtain ⟨p, dx, gs, h0, h1, h2, h3, h4⟩ := h
    exact ⟨p, dx, gs, hw _ _ (.inl rfl) h0, hσ.trans h1, ho _ _ _ (.inl rfl) h0 h2, h3, h4.up e⟩
  | dl =>
    obtain ⟨d, l, h0, h1⟩ := h
    exact ⟨d, l, h0, hσ.trans h1⟩
  | er a cls od dx =>
    obtain ⟨z1, z2⟩ := h
    exact ⟨hσ.trans z1, z2.up e⟩
  | od ks ds =>
    obtain ⟨p, kvs, h0, h1, h2, h3, h4, h5⟩ := h
    exact ⟨p, kvs, hw _ _ (.inl rfl) h0, hσ.trans h1, ho _ _ _ (.inl rfl) h0 h2, h3, h4.up e, h5⟩
  | mu b c ms =>
    obtain ⟨hz, p, dx, gs, h0, h1, h2, ⟨h3, h5, h6⟩, h4⟩ := h
    exact ⟨by rw [hl]; exact hz, p, dx, gs, hw _ _ (.inl rfl) h0, hσ.trans h1, ho _ _ _ (.inl rfl) h0 h2, ⟨h3, h5, fun k a z => (hn k a z).elim (h6 k a) id⟩, h4.gen e (fun k q => hw _ _ (.inr ⟨hz, k, rfl⟩)) fun k q o => ho _ _ _ (.inr ⟨hz, k, rfl⟩)⟩
  | pm k m =>
    obtain ⟨p, h5, h6, h0, h1, h2⟩ := h
    refine ⟨p, h5, h6, hw _ _ (.inl rfl) h0, hσ.trans h1, ?_⟩
    cases m with
    | va d => exact h2.elim
    | ow ds =>
      obtain ⟨vs, h2, h3⟩ := h2
      exact ⟨vs, ho _ _ _ (.inl rfl) h0 h2, h3.up e⟩
    | od ks ds =>
      obtain ⟨kvs, h2, h3, h4⟩ := h2
      exact ⟨kvs, ho _ _ _ (.inl rfl) h0 h2, h3, h4.up e⟩
theorem SlOk.gen {W' : Ow} {σ' : L2.St} {s : Sl} {i : Nat} (hl : σ'.length = σ.length) (hσ : σ'[i]? = σ[i]?) (e : Same (Λ.vis W H) (Λ.vis W' H')) (hw : ∀ j p, (j = i ∨ (σ.length ≤ 1000 ∧ Sub j)) → W j = some p → W' j = some p)
    (ho : ∀ j p o, (j = i ∨ (σ.length ≤ 1000 ∧ Sub j)) → W j = some p → H p = some o → H' p = some o) (h : SlOk Λ W σ H i s) (hn : ∀ k a, W' (sub i k) = some a → W (sub i k) = some a ∨ ¬ Λ.M a := by exact fun _ _ z => .inl z) : SlOk Λ W' σ' H' i s :=
  h.genS hl hσ e (fun j p hj => hw j p (hj.imp id fun ⟨z, k, e⟩ => ⟨z, e ▸ sub_Sub⟩)) (fun j p o hj => ho j p o (hj.imp id fun ⟨z, k, e⟩ => ⟨z, e ▸ sub_Sub⟩)) hn
theorem SlOk.mono {s : Sl} {i : Nat} (e : Same (Λ.vis W H) (Λ.vis W H')) (k : ∀ j p o, W j = some p → H p = some o → H' p = some o) (h : SlOk Λ W σ H i s) : SlOk Λ W σ H' i s :=
  h.gen rfl rfl e (fun _ _ _ z => z) fun j p o _ => k j p o
theorem some_mono {H H' : Hp} {a : Addr} (s : Same H H') (h : H a ≠ none) : H' a ≠ none := by
  cases q : H a with
  | none => exact absurd q h
  | some o => rw [s _ _ q]; simp
theorem StOk.grow (S : StOk Λ env W σ H) (s : Same H H') : StOk Λ env W σ H' where
  len := S.len
  sl := fun i x e => (S.sl i x e).mono (hid_same s) fun _ p o _ h => s _ _ h
  fr := fun a o m h => s _ _ (S.fr a o m h)
  mx := fun a m => some_mono s (S.mx a m)
  zx := fun a m => some_mono s (S.zx a m)
  wx := fun i p e => ⟨some_mono s (S.wx i p e).1, (S.wx i p e).2⟩
  wi := S.wi
  dl := fun d l e => ⟨(S.dl d l e).1.same s, (S.dl d l e).2⟩
  wf := S.wf
theorem vis_same (s : Same H H') : Same (Λ.vis W H) (Λ.vis W H') := hid_same s
/-- an expression's step -/
structure Ev (Λ : Lx) (W : Ow) (H H' : Hp) : Prop where
  vis : Same (Λ.vis W H) (Λ.vis W H')
  own : ∀ i p o, W i = some p → H p = some o → H' p = some o
  all : ∀ a, H a ≠ none → H' a ≠ none
theorem Ev.refl : Ev Λ W H H := ⟨fun _ _ h => h, fun _ _ _ _ h => h, fun _ h => h⟩
theorem Ev.trans {H1 H2 : Hp} (a : Ev Λ W H H1) (b : Ev Λ W H1 H2) : Ev Λ W H H2 := ⟨a.vis.trans b.vis, fun i p o w h => b.own i p o w (a.own i p o w h), fun c h => b.all c (a.all c h)⟩
theorem Ev.of (s : Same H H') : Ev Λ W H H' := ⟨hid_same s, fun _ _ _ _ h => s _ _ h, fun _ h => some_mono s h⟩
theorem Ev.free (e : Ev Λ W H H') {p : Addr} (h : H' p = none) : H p = none := by
  cases q : H p with
  | none => rfl
  | some o => exact absurd h (e.all p (by rw [q]; simp))
/-- behind a draw -/
theorem StOk.drew (S : StOk Λ env W σ H) {d l : Addr} (e : Λ.dl = some (d, l)) (w : Drew d l H H') : StOk Λ env W σ H' ∧ Ev Λ W H H' := by
  obtain ⟨D0, md, ml, nw⟩ := S.dl d l e
  have nin : ∀ a, ¬ Λ.M a → a ∉ [d, l] := fun a m z => by
    rcases List.mem_cons.mp z with q | z
    · subst q; exact m md
    · rw [List.mem_singleton.mp z] at m; exact m ml
  have wn : ∀ i p, W i = some p → p ∉ [d, l] := fun i p q z => by
    rcases List.mem_cons.mp z with r | z
    · rw [r] at q; exact (nw i).1 q
    · rw [List.mem_singleton.mp z] at q; exact (nw i).2 q
  have sm : Same (Λ.vis W H) (Λ.vis W H') := hid_grow fun a o g h => ⟨g, w.grow a o (nin a fun m => g (.inr (.inl m))) h⟩
  have st : ∀ a, H a ≠ none → H' a ≠ none := fun a h => by
    by_cases z : a ∈ [d, l]
    · exact w.deal.none a z
    · cases q : H a with
      | none => exact absurd q h
      | some o => rw [w.grow a o z q]; simp
  refine ⟨⟨S.len, fun i x q => (S.sl i x q).mono sm fun j p o q2 h => w.grow p o (wn j p q2) h, fun a o m h => w.grow a o (nin a m) (S.fr a o m h), fun a m => st a (S.mx a m), fun a m => st a (S.zx a m), fun i p q => ⟨st p (S.wx i p q).1, (S.wx i p q).2⟩, S.wi, fun d' l' q => ?_, S.wf⟩, sm, fun i p o q h => w.grow p o (wn i p q) h, st⟩
  rw [e] at q
  cases q
  exact ⟨w.deal, md, ml, nw⟩
theorem wput_fin {i : Nat} {o : Option Addr} (h : ∃ n, ∀ m, n ≤ m → W m = none) : ∃ n, ∀ m, n ≤ m → wput W i o m = none := by
  obtain ⟨n, h⟩ := h
  exact ⟨n + i + 1, fun m hm => by rw [wput_ne (by omega)]; exact h m (by omega)⟩
/-- a slot is given a value -/
theorem vis_drop {i : Nat} : Same (Λ.vis W H) (Λ.vis (wput W i none) H) := hid_anti fun a g => by
  rcases g with z | z | ⟨j, z⟩
  · exact .inl z
  · exact .inr (.inl z)
  · refine .inr (.inr ⟨j, ?_⟩)
    by_cases q : j = i
    · rw [wput_same q] at z; cases z
    · rw [wput_ne q] at z; exact z
theorem StOk.putD (S : StOk Λ env W σ H) {i : Nat} {d : D} {v : V} (hi : i < env.length) (r : Rep Λ.B (Λ.vis W H) d v) :
    StOk Λ (env.set i (.va d)) (wput W i none) (σ.set i (some v)) H where
  len := by rw [List.length_set, List.length_set]; exact S.len
  sl := fun j x e => by
    by_cases q : j = i
    · subst q
      have hj : j < env.length := by
        have := (List.getElem?_eq_some_iff.mp e).1
        rwa [List.length_set] at this
      rw [List.getElem?_set_self hj] at e
      cases e
      exact ⟨v, List.getElem?_set_self (by rw [S.len]; exact hj), r.up vis_drop⟩
    · rw [List.getElem?_set_ne (Ne.symm q)] at e
      have z := S.sl j x e
      exact z.gen (List.length_set ..) (List.getElem?_set_ne (Ne.symm q)) vis_drop (fun j' p hj hp => by
        rw [wput_ne]
        · exact hp
        · rcases hj with hj | ⟨hj, hs⟩
          · rw [hj]; exact q
          · have := S.len; have := hs.1; omega) (fun _ _ _ _ _ h => h) fun k a z => .inl (by
        by_cases y : sub j k = i
        · rw [wput_same y] at z; cases z
        · rw [wput_ne y] at z; exact z)
  fr := S.fr
  mx := S.mx
  zx := S.zx
  wx := fun j p e => by
    by_cases q : j = i
    · rw [wput_same q] at e; cases e
    · rw [wput_ne q] at e; exact S.wx j p e
  wi := fun j k p e1 e2 => by
    by_cases q : j = i
    · rw [wput_same q] at e1; cases e1
    · rw [wput_ne q] at e1
      by_cases q2 : k = i
      · rw [wput_same q2] at e2; cases e2
      · rw [wput_ne q2] at e2; exact S.wi j k p e1 e2
  dl := fun d l e => by
    obtain ⟨D0, md, ml, nw⟩ := S.dl d l e
    refine ⟨D0, md, ml, fun j => ?_⟩
    by_cases q : j = i
    · rw [wput_same q]; exact ⟨by simp, by simp⟩
    · rw [wput_ne q]; exact nw j
  wf := wput_fin S.wf
/-- .. what it owned before stays hidden -/
theorem StOk.put (S : StOk Λ env W σ H) {i : Nat} {d : D} {v : V} (r : Rep Λ.B (Λ.vis W H) d v) : StOk Λ (env.set i (.va d)) W (σ.set i (some v)) H where
  len := by rw [List.length_set, List.length_set]; exact S.len
  sl := fun j x e => by
    by_cases q : j = i
    · subst q
      have hj : j < env.length := by
        have := (List.getElem?_eq_some_iff.mp e).1
        rwa [List.length_set] at this
      rw [List.getElem?_set_self hj] at e
      cases e
      exact ⟨v, List.getElem?_set_self (by rw [S.len]; exact hj), r⟩
    · rw [List.getElem?_set_ne (Ne.symm q)] at e
      have z := S.sl j x e
      have eq : (σ.set i (some v))[j]? = σ[j]? := List.getElem?_set_ne (Ne.symm q)
      exact z.gen (List.length_set ..) (List.getElem?_set_ne (Ne.symm q)) (Same.refl _) (fun _ _ _ h => h) fun _ _ _ _ _ h => h
  fr := S.fr
  mx := S.mx
  zx := S.zx
  wx := S.wx
  wi := S.wi
  dl := S.dl
  wf := S.wf
/-- other slots at a later heap -/
theorem StOk.ev {env2 : List Sl} {σ2 : L2.St} (S : StOk Λ env W σ H) (S2 : StOk Λ env2 W σ2 H') (e : Ev Λ W H H') : StOk Λ env W σ H' :=
  ⟨S.len, fun i x h => (S.sl i x h).mono e.vis fun j p o hw h2 => e.own j p o hw h2, S2.fr, S2.mx, S2.zx, S2.wx, S2.wi, S2.dl, S2.wf⟩
/-- a hidden thing beyond the slots changes -/
theorem StOk.mutV (S : StOk Λ env W σ H) {n : Nat} {p : Addr} {o : HO} (hw : W n = some p) (hn : env.length ≤ n) (hs : ¬ Sub n) (hm : ¬ Λ.M p) : StOk Λ env W σ (upd H p o) := by
  have v1 : Same (Λ.vis W H) (Λ.vis W (upd H p o)) := hid_grow fun a u g ha => ⟨g, by rw [upd_ne (show a ≠ p from fun z => g (.inr (.inr ⟨n, by rw [z]; exact hw⟩)))]; exact ha⟩
  have st : ∀ a, H a ≠ none → upd H p o a ≠ none := fun a h => by
    by_cases z : a = p
    · rw [z, upd_same]; simp
    · rw [upd_ne z]; exact h
  refine ⟨S.len, fun j x ej => (S.sl j x ej).gen rfl rfl v1 (fun _ _ _ z => z) fun j' p' o' hj' hj h => ?_, fun a u m h0 => ?_, fun a m => st a (S.mx a m), fun a m => st a (S.zx a m), fun j q ej => ⟨st q (S.wx j q ej).1, (S.wx j q ej).2⟩, S.wi, fun d l ed => ?_, S.wf⟩
  · have hj2 : j < env.length := (List.getElem?_eq_some_iff.mp ej).1
    have nj : j' ≠ n := by
      rcases hj' with e | ⟨_, e⟩
      · omega
      · exact fun y => hs (y ▸ e)
    rw [upd_ne (show p' ≠ p from fun z => nj (S.wi j' n p (by rw [← z]; exact hj) hw))]
    exact h
  · have := S.fr a u m h0
    have n : a ≠ p := fun z => by
      subst z
      rcases (S.wx n a hw).2.2 with q | q
      · rw [q] at h0; cases h0
      · exact m q
    rw [upd_ne n]
    exact this
  · obtain ⟨D0, md, ml, nw⟩ := S.dl d l ed
    refine ⟨D0.upd fun z => ?_, md, ml, nw⟩
    rcases List.mem_cons.mp z with q | z
    · rw [q] at hw; exact (nw n).1 hw
    · rw [List.mem_singleton.mp z] at hw; exact (nw n).2 hw
/-- .. is shown again -/
theorem StOk.show_ {W2 : Ow} (S : StOk Λ env W2 σ H) {n : Nat} (hn : env.length ≤ n) (hs : ¬ Sub n) (hW : ∀ j, j ≠ n → W j = W2 j) (hWn : W n = none) : StOk Λ env W σ H := by
  have g : ∀ a, Λ.G W a → Λ.G W2 a := fun a g => by
    rcases g with z | z | ⟨j, z⟩
    · exact .inl z
    · exact .inr (.inl z)
    · by_cases q : j = n
      · rw [q, hWn] at z; cases z
      · exact .inr (.inr ⟨j, by rw [← hW j q]; exact z⟩)
  have v : Same (Λ.vis W2 H) (Λ.vis W H) := hid_anti g
  have nw : ∀ j p, W j = some p → W2 j = some p := fun j p e => by
    by_cases q : j = n
    · rw [q, hWn] at e; cases e
    · rw [← hW j q]; exact e
  refine ⟨S.len, fun j x ej => ?_, S.fr, S.mx, S.zx, fun j p e => S.wx j p (nw j p e), fun i j p e1 e2 => S.wi i j p (nw i p e1) (nw j p e2), fun d l ed => ?_, ?_⟩
  · have hj : j ≠ n := by have := (List.getElem?_eq_some_iff.mp ej).1; omega
    have z := S.sl j x ej
    refine z.gen rfl rfl v (fun j' p hj' hp => ?_) (fun _ _ _ _ _ h => h) fun k a y => .inl (nw _ _ y)
    rw [hW]
    · exact hp
    · rcases hj' with e | ⟨_, e⟩
      · rw [e]; exact hj
      · exact fun y => hs (y ▸ e)
  · obtain ⟨D0, md, ml, nw2⟩ := S.dl d l ed
    exact ⟨D0, md, ml, fun j => ⟨fun z => (nw2 j).1 (nw j d z), fun z => (nw2 j).2 (nw j l z)⟩⟩
  · obtain ⟨m, hm⟩ := S.wf
    refine ⟨m, fun j hj => ?_⟩
    by_cases q : j = n
    · rw [q]; exact hWn
    · rw [hW j q]; exact hm j hj
/-- forgetting a slot -/
theorem StOk.forget (S : StOk Λ env W σ H) {i : Nat} : StOk Λ (env.set i .un) W (σ.set i none) H where
  len := by rw [List.length_set, List.length_set]; exact S.len
  sl := fun j x e => by
    by_cases q : j = i
    · subst q
      have hj : j < env.length := by
        have := (List.getElem?_eq_some_iff.mp e).1
        rwa [List.length_set] at this
      rw [List.getElem?_set_self hj] at e
      cases e
      trivial
    · rw [List.getElem?_set_ne (Ne.symm q)] at e
      have z := S.sl j x e
      exact z.gen (List.length_set ..) (List.getElem?_set_ne (Ne.symm q)) (Same.refl _) (fun _ _ _ h => h) fun _ _ _ _ _ h => h
  fr := S.fr
  mx := S.mx
  zx := S.zx
  wx := S.wx
  wi := S.wi
  dl := S.dl
  wf := S.wf
/-- a slot is given a new list that is its own -/
theorem StOk.hide (S : StOk Λ env W σ H) (S' : StOk Λ env W σ H') (e : Ev Λ W H H') {i : Nat} {p : Addr} (hp : H p = none) (h' : H' p ≠ none) (hi : env.length ≤ i ∧ W i = none ∨ i < env.length) :
    StOk Λ (env.set i .un) (wput W i (some p)) σ H' ∧ Same (Λ.vis W H) (Λ.vis (wput W i (some p)) H') ∧ Same (hid (fun a => a = p) (Λ.vis W H')) (Λ.vis (wput W i (some p)) H') := by
  have G1 : ∀ a, Λ.G (wput W i (some p)) a → a ≠ p → Λ.G W a := fun a g n => by
    rcases g with z | z | ⟨j, z⟩
    · exact .inl z
    · exact .inr (.inl z)
    · refine .inr (.inr ⟨j, ?_⟩)
      by_cases q : j = i
      · rw [wput_same q] at z; cases z; exact absurd rfl n
      · rw [wput_ne q] at z; exact z
  have nW : ∀ j, W j ≠ some p := fun j z => (S.wx j p z).1 hp
  have v1 : Same (Λ.vis W H) (Λ.vis (wput W i (some p)) H') := fun a o ha => by
    have n : a ≠ p := ne_of_none (hid_some.mp ha).2 hp
    obtain ⟨g, h2⟩ := hid_some.mp (e.vis a o ha)
    exact hid_some.mpr ⟨fun g' => g (G1 a g' n), h2⟩
  have v2 : Same (hid (fun a => a = p) (Λ.vis W H')) (Λ.vis (wput W i (some p)) H') := fun a o ha => by
    obtain ⟨n, ha⟩ := hid_some.mp ha
    obtain ⟨g, ha⟩ := hid_some.mp ha
    exact hid_some.mpr ⟨fun g' => g (G1 a g' n), ha⟩
  have hpp : ¬ Λ.G W p := S.fresh hp
  refine ⟨⟨by rw [List.length_set]; exact S.len, fun j x ej => ?_, S'.fr, S'.mx, S'.zx, fun j q ej => ?_, fun j k q e1 e2 => ?_, fun d l ed => ?_, wput_fin S.wf⟩, v1, v2⟩
  · by_cases q : j = i
    · subst q
      have hj : j < env.length := by
        have := (List.getElem?_eq_some_iff.mp ej).1
        rwa [List.length_set] at this
      rw [List.getElem?_set_self hj] at ej
      cases ej
      trivial
    · rw [List.getElem?_set_ne (Ne.symm q)] at ej
      have z := S.sl j x ej
      refine z.gen rfl rfl v1 (fun j' p' hj hp' => ?_) (fun j' p' o _ hp' h => e.own _ _ _ hp' h) fun k a y => by
        by_cases y2 : sub j k = i
        · rw [wput_same y2] at y; cases y; exact .inr fun m => hpp (.inr (.inl m))
        · rw [wput_ne y2] at y; exact .inl y
      rw [wput_ne]
      · exact hp'
      · rcases hj with hj | ⟨hz, hj⟩
        · rw [hj]; exact q
        · rcases hi with ⟨_, hi⟩ | hi
          · intro y; rw [y, hi] at hp'; cases hp'
          · have := S.len; have := hj.1; omega
  · by_cases z : j = i
    · rw [wput_same z] at ej
      cases ej
      exact ⟨h', fun z => hpp (.inl z), .inl (S.fresh0 hp)⟩
    · rw [wput_ne z] at ej
      exact S'.wx j q ej
  · by_cases z : j = i
    · rw [wput_same z] at e1
      cases e1
      by_cases z2 : k = i
      · rw [z, z2]
      · rw [wput_ne z2] at e2
        exact absurd e2 (nW k)
    · rw [wput_ne z] at e1
      by_cases z2 : k = i
      · rw [wput_same z2] at e2
        cases e2
        exact absurd e1 (nW j)
      · rw [wput_ne z2] at e2
        exact S.wi j k q e1 e2
  · obtain ⟨D0, md, ml, nw⟩ := S.dl d l ed
    refine ⟨(S'.dl d l ed).1, md, ml, fun j => ?_⟩
    by_cases q : j = i
    · rw [wput_same q]
      obtain ⟨hd, hl⟩ : H d ≠ none ∧ H l ≠ none := ⟨D0.none d (by simp), D0.none l (by simp)⟩
      exact ⟨fun z => by cases z; exact hd hp, fun z => by cases z; exact hl hp⟩
    · rw [wput_ne q]
      exact nw j
theorem StOk.putOwn (S : StOk Λ env W σ H) (S' : StOk Λ env W σ H') (e : Ev Λ W H H') {i : Nat} {p : Addr} {ds : List D} {vs : List V} (hp : H p = none) (h : H' p = some (.lst vs)) (r : RepL Λ.B (hid (fun a => a = p) (Λ.vis W H')) ds vs) (hi : i < env.length) :
    StOk Λ (env.set i (.ow ds)) (wput W i (some p)) (σ.set i (some (.ref p))) H' ∧ Same (Λ.vis W H) (Λ.vis (wput W i (some p)) H') := by
  obtain ⟨S2, v1, v2⟩ := S.hide S' e (i := i) hp (by rw [h]; simp) (.inr hi)
  have hpp : ¬ Λ.G W p := S.fresh hp
  refine ⟨⟨by rw [List.length_set, List.length_set]; exact S.len, fun j x ej => ?_, S2.fr, S2.mx, S2.zx, S2.wx, S2.wi, S2.dl, S2.wf⟩, v1⟩
  by_cases q : j = i
  · subst q
    rw [List.getElem?_set_self hi] at ej
    cases ej
    exact ⟨p, vs, wput_same rfl, List.getElem?_set_self (by rw [S.len]; exact hi), h, r.up v2, fun z => hpp (.inr (.inl z))⟩
  · rw [List.getElem?_set_ne (Ne.symm q)] at ej
    have z := S2.sl j x (by rw [List.getElem?_set_ne (Ne.symm q)]; exact ej)
    have eq : (σ.set i (some (V.ref p)))[j]? = σ[j]? := List.getElem?_set_ne (Ne.symm q)
    exact z.gen (List.length_set ..) eq (Same.refl _) (fun _ _ _ h => h) fun _ _ _ _ _ h => h
/-- an own thing changes -/
theorem StOk.mut (S : StOk Λ env W σ H) {i : Nat} {p : Addr} {o : HO} {s : Sl} (hw : W i = some p) (hs : SlOk Λ W σ (upd H p o) i s) (hsz : i < env.length) :
    StOk Λ (env.set i s) W σ (upd H p o) ∧ Same (Λ.vis W H) (Λ.vis W (upd H p o)) := by
  have v1 : Same (Λ.vis W H) (Λ.vis W (upd H p o)) := hid_grow fun a u g ha => ⟨g, by rw [upd_ne (show a ≠ p from fun z => g (.inr (.inr ⟨i, by rw [z]; exact hw⟩)))]; exact ha⟩
  have st : ∀ a, H a ≠ none → upd H p o a ≠ none := fun a h => by
    by_cases z : a = p
    · rw [z, upd_same]; simp
    · rw [upd_ne z]; exact h
  refine ⟨⟨by rw [List.length_set]; exact S.len, fun j x ej => ?_, fun a u m h0 => ?_, fun a m => st a (S.mx a m), fun a m => st a (S.zx a m), fun j q ej => ⟨st q (S.wx j q ej).1, (S.wx j q ej).2⟩, S.wi, fun d l ed => ?_, S.wf⟩, v1⟩
  · by_cases q : j = i
    · subst q
      rw [List.getElem?_set_self hsz] at ej
      cases ej
      exact hs
    · rw [List.getElem?_set_ne (Ne.symm q)] at ej
      refine (S.sl j x ej).gen rfl rfl v1 (fun _ _ _ z => z) fun j' p' o' hj' hj h => ?_
      have nj : j' ≠ i := by
        rcases hj' with e | ⟨hz, e⟩
        · rw [e]; exact q
        · have := S.len; have := e.1; omega
      rw [upd_ne (show p' ≠ p from fun z => nj (S.wi j' i p (by rw [← z]; exact hj) hw))]
      exact h
  · have := S.fr a u m h0
    have n : a ≠ p := fun z => by
      subst z
      rcases (S.wx i a hw).2.2 with q | q
      · rw [q] at h0; cases h0
      · exact m q
    rw [upd_ne n]
    exact this
  · obtain ⟨D0, md, ml, nw⟩ := S.dl d l ed
    refine ⟨D0.upd fun z => ?_, md, ml, nw⟩
    rcases List.mem_cons.mp z with q | z
    · rw [q] at hw; exact (nw i).1 hw
    · rw [List.mem_singleton.mp z] at hw; exact (nw i).2 hw
/-- an own list stands still from now on -/
theorem StOk.freeze (S : StOk Λ env W σ H) {i : Nat} {ds : List D} (h : env[i]? = some (.ow ds)) :
    StOk Λ (env.set i (.va (.lst ds))) (wput W i none) σ H ∧ Same (Λ.vis W H) (Λ.vis (wput W i none) H) := by
  obtain ⟨p, vs, h0, h1, h2, h3, h4⟩ := S.sl i _ h
  have nG : ¬ Λ.G (wput W i none) p := by
    rintro (z | z | ⟨j, z⟩)
    · exact (S.wx i p h0).2.1 z
    · exact h4 z
    · by_cases q : j = i
      · rw [wput_same q] at z; cases z
      · rw [wput_ne q] at z; exact q (S.wi j i p z h0)
  have es : σ.set i (some (.ref p)) = σ := by
    obtain ⟨hi, e⟩ := List.getElem?_eq_some_iff.mp h1
    rw [← e, List.set_getElem_self]
  have S1 : StOk Λ env (wput W i none) σ H → True := fun _ => trivial
  -- put asks for the value ahead of the drop: by hand
  have S2 := S.putD (i := i) (d := .non) (v := .non) (List.getElem?_eq_some_iff.mp h).1 rfl
  refine ⟨⟨by rw [List.length_set]; exact S.len, fun j x e => ?_, S.fr, S.mx, S.zx, S2.wx, S2.wi, S2.dl, S2.wf⟩, vis_drop⟩
  by_cases q : j = i
  · subst q
    rw [List.getElem?_set_self (List.getElem?_eq_some_iff.mp h).1] at e
    cases e
    exact ⟨.ref p, h1, p, vs, rfl, hid_some.mpr ⟨nG, h2⟩, h3.up vis_drop⟩
  · rw [List.getElem?_set_ne (Ne.symm q)] at e
    have z := S2.sl j x (by rw [List.getElem?_set_ne (Ne.symm q)]; exact e)
    have eq : (σ.set i (some V.non))[j]? = σ[j]? := List.getElem?_set_ne (Ne.symm q)
    exact z.gen (List.length_set ..).symm eq.symm (Same.refl _) (fun _ _ _ h => h) fun _ _ _ _ _ h => h
end
end Eb

/-! ## own layer: what expressions, tests, statements come to, without a heap -/
namespace Eb
open PySem PySem.Spec PyProof.Rows L2
/-- if, of a truth value -/
def iteB (b : Bool) (X Y : Prop) : Prop := match b with
  | true => X
  | false => Y
theorem iteB_by {b : Bool} {X Y : Prop} (h1 : b = true → X) (h2 : b = false → Y) : iteB b X Y := by
  cases b with
  | true => exact h1 rfl
  | false => exact h2 rfl
theorem iteB_t {b : Bool} {X Y : Prop} (h : b = true) (h1 : X) : iteB b X Y := iteB_by (fun _ => h1) fun z => by rw [h] at z; cases z
theorem iteB_f {b : Bool} {X Y : Prop} (h : b = false) (h1 : Y) : iteB b X Y := iteB_by (fun z => by rw [h] at z; cases z) fun _ => h1
abbrev DK := (D → Prop) → (DX → Prop) → Prop
abbrev DE := List Sl → (D → Prop) → (DX → Prop) → Prop
abbrev DT := List Sl → (Bool → Prop) → (DX → Prop) → Prop
abbrev DA := List Sl → (List D → Prop) → (DX → Prop) → Prop
structure DEnds where
  nx : List Sl → Prop
  rt : List Sl → D → Prop
  bk : List Sl → Prop
  ct : List Sl → Prop
  ex : List Sl → DX → Prop
abbrev DS := List Sl → DEnds → Prop
abbrev DG := D → List Sl → (List Sl → Prop) → Prop
/-- what is raised is wished for -/
def XOk (Λ : Lx) (w : WX) (env : List Sl) (W : Ow) (σ : L2.St) (H : Hp) (x : DX → Prop) : Prop :=
  ∀ dx cv od H', x dx → StOk Λ env W σ H' → Ev Λ W H H' → RepX Λ.B (Λ.vis W H') dx cv od → w cv od σ H'
theorem XOk.on {Λ : Lx} {w : WX} {env : List Sl} {W : Ow} {σ : L2.St} {H H' : Hp} {x : DX → Prop} (h : XOk Λ w env W σ H x) (e : Ev Λ W H H') : XOk Λ w env W σ H' x := fun dx cv od H2 hx S e2 r => h dx cv od H2 hx S (e.trans e2) r
def Snd (Λ : Lx) (w : WX) (te : TE) (t : DE) : Prop := ∀ env W σ H (Q : VK) q x, StOk Λ env W σ H → XOk Λ w env W σ H x → t env q x →
  (∀ d v H', q d → StOk Λ env W σ H' → Ev Λ W H H' → Rep Λ.B (Λ.vis W H') d v → Q v H') → te σ H Q
def SndT (Λ : Lx) (w : WX) (te : TT) (t : DT) : Prop := ∀ env W σ H (Q : Bool → Hp → Prop) q x, StOk Λ env W σ H → XOk Λ w env W σ H x → t env q x →
  (∀ b H', q b → StOk Λ env W σ H' → Ev Λ W H H' → Q b H') → te σ H Q
def SndA (Λ : Lx) (w : WX) (te : TA) (t : DA) : Prop := ∀ env W σ H (Q : List V → Hp → Prop) q x, StOk Λ env W σ H → XOk Λ w env W σ H x → t env q x →
  (∀ ds vs H', q ds → StOk Λ env W σ H' → Ev Λ W H H' → RepL Λ.B (Λ.vis W H') ds vs → Q vs H') → te σ H Q
/-- a new list -/
def SndL (Λ : Lx) (w : WX) (te : TE) (t : DA) : Prop := ∀ env W σ H (Q : VK) q x, StOk Λ env W σ H → XOk Λ w env W σ H x → t env q x →
  (∀ ds p vs H', q ds → StOk Λ env W σ H' → Ev Λ W H H' → H p = none → H' p = some (.lst vs) → RepL Λ.B (hid (fun a => a = p) (Λ.vis W H')) ds vs → Q (.ref p) H') → te σ H Q
/-- an operation on two values, on one, on some -/
def SndR (Λ : Lx) (w : WX) (r : R2) (f : D → D → DK) : Prop := ∀ env W σ H d e v u (Q : VK) q x, StOk Λ env W σ H → XOk Λ w env W σ H x → Rep Λ.B (Λ.vis W H) d v → Rep Λ.B (Λ.vis W H) e u → f d e q x →
  (∀ d v H', q d → StOk Λ env W σ H' → Ev Λ W H H' → Rep Λ.B (Λ.vis W H') d v → Q v H') → r v u H Q
def SndU (Λ : Lx) (w : WX) (r : V → Hp → VK → Prop) (f : D → DK) : Prop := ∀ env W σ H d v (Q : VK) q x, StOk Λ env W σ H → XOk Λ w env W σ H x → Rep Λ.B (Λ.vis W H) d v → f d q x →
  (∀ d v H', q d → StOk Λ env W σ H' → Ev Λ W H H' → Rep Λ.B (Λ.vis W H') d v → Q v H') → r v H Q
def SndC (Λ : Lx) (w : WX) (r : List V → Hp → VK → Prop) (f : List D → DK) : Prop := ∀ env W σ H ds vs (Q : VK) q x, StOk Λ env W σ H → XOk Λ w env W σ H x → RepL Λ.B (Λ.vis W H) ds vs → f ds q x →
  (∀ d v H', q d → StOk Λ env W σ H' → Ev Λ W H H' → Rep Λ.B (Λ.vis W H') d v → Q v H') → r vs H Q
def SndCL (Λ : Lx) (w : WX) (r : List V → Hp → VK → Prop) (f : List D → (List D → Prop) → (DX → Prop) → Prop) : Prop := ∀ env W σ H ds vs (Q : VK) q x, StOk Λ env W σ H → XOk Λ w env W σ H x → RepL Λ.B (Λ.vis W H) ds vs → f ds q x →
  (∀ ds p vs H', q ds → StOk Λ env W σ H' → Ev Λ W H H' → H p = none → H' p = some (.lst vs) → RepL Λ.B (hid (fun a => a = p) (Λ.vis W H')) ds vs → Q (.ref p) H') → r vs H Q
/-- a statement -/
structure Lnk (Λ : Lx) (w : WX) (W : Ow) (H : Hp) (E : Ends) (e : DEnds) : Prop where
  nx : ∀ env' W' σ' H', e.nx env' → StOk Λ env' W' σ' H' → Same (Λ.vis W H) (Λ.vis W' H') → E.nx σ' H'
  bk : ∀ env' W' σ' H', e.bk env' → StOk Λ env' W' σ' H' → Same (Λ.vis W H) (Λ.vis W' H') → E.bk σ' H'
  ct : ∀ env' W' σ' H', e.ct env' → StOk Λ env' W' σ' H' → Same (Λ.vis W H) (Λ.vis W' H') → E.ct σ' H'
  rt : ∀ d v env' W' σ' H', e.rt env' d → StOk Λ env' W' σ' H' → Rep Λ.B (Λ.vis W' H') d v → E.rt v H'
  ex : ∀ env' W' σ' H' dx cv od, e.ex env' dx → StOk Λ env' W' σ' H' → Same (Λ.vis W H) (Λ.vis W' H') → RepX Λ.B (Λ.vis W' H') dx cv od → w cv od σ' H'
theorem Lnk.on {Λ : Lx} {w : WX} {W W' : Ow} {H H' : Hp} {E : Ends} {e : DEnds} (L : Lnk Λ w W H E e) (s : Same (Λ.vis W H) (Λ.vis W' H')) : Lnk Λ w W' H' E e :=
  ⟨fun _ _ _ _ a b c => L.nx _ _ _ _ a b (s.trans c), fun _ _ _ _ a b c => L.bk _ _ _ _ a b (s.trans c), fun _ _ _ _ a b c => L.ct _ _ _ _ a b (s.trans c), L.rt, fun _ _ _ _ _ _ _ a b c => L.ex _ _ _ _ _ _ _ a b (s.trans c)⟩
theorem Lnk.xok {Λ : Lx} {w : WX} {W : Ow} {H : Hp} {E : Ends} {e : DEnds} (L : Lnk Λ w W H E e) {env : List Sl} {σ : L2.St} : XOk Λ w env W σ H (e.ex env) := fun dx cv od H' hx S ev r => L.ex _ _ _ _ dx cv od hx S ev.vis r
def SndS (Λ : Lx) (w : WX) (ts : TS) (t : DS) : Prop := ∀ env W σ H (E : Ends) e, StOk Λ env W σ H → Lnk Λ w W H E e → t env e → ts E σ H
/-- a target -/
def SndG (Λ : Lx) (g : TG) (t : DG) (js : List Nat) : Prop := ∀ env W σ H d v q (Q : L2.St → Hp → Prop), StOk Λ env W σ H → Rep Λ.B (Λ.vis W H) d v → t d env q →
  (∀ env' σ', q env' → env'.length = env.length → StOk Λ env' W σ' H → (∀ vs : List Nat, (∀ j ∈ js, j ∈ vs) → wipe σ' vs = wipe σ vs) → Q σ' H) → g v σ H Q
/-- what is walked -/
structure ItOk (Λ : Lx) (W : Ow) (H : Hp) (J : It) (ds : List D) : Prop where
  go : ∀ i env' W' σ' H', i < ds.length → StOk Λ env' W' σ' H' → Same (Λ.vis W H) (Λ.vis W' H') → J.go i H'
  stop : ∀ env' W' σ' H', StOk Λ env' W' σ' H' → Same (Λ.vis W H) (Λ.vis W' H') → J.stop ds.length H'
  yld : ∀ i x env' W' σ' H' H'', i < ds.length → StOk Λ env' W' σ' H' → Same (Λ.vis W H) (Λ.vis W' H') → J.yld i H' x H'' → Same H' H'' ∧ ∃ d, ds[i]? = some d ∧ Rep Λ.B (Λ.vis W' H'') d x
def SndI (Λ : Lx) (w : WX) (wi : TI) (t : DA) : Prop := ∀ env W σ H (R : It → Hp → Prop) q x, StOk Λ env W σ H → XOk Λ w env W σ H x → t env q x →
  (∀ ds J H', q ds → StOk Λ env W σ H' → Ev Λ W H H' → ItOk Λ W H' J ds → R J H') → wi σ H R

structure XE (X : Cx) (Λ : Lx) (w : WX) (e : Expr) (t : DE) : Prop where
  ex : X.K = Λ.B.K → ∃ te, PE X e te ∧ Snd Λ w te t
structure XT (X : Cx) (Λ : Lx) (w : WX) (e : Expr) (t : DT) : Prop where
  ex : X.K = Λ.B.K → ∃ te, PT X e te ∧ SndT Λ w te t
structure XW (X : Cx) (Λ : Lx) (w : WX) (e : Expr) (t : DT) : Prop where
  ex : X.K = Λ.B.K → ∃ te, PW X e te ∧ SndT Λ w te t
structure XTs (X : Cx) (Λ : Lx) (w : WX) (e : List Expr) (t : DT) : Prop where
  ex : X.K = Λ.B.K → ∃ te, PTs X e te ∧ SndT Λ w te t
structure XA (X : Cx) (Λ : Lx) (w : WX) (es : List Expr) (t : DA) : Prop where
  ex : X.K = Λ.B.K → ∃ te, PA X es te ∧ SndA Λ w te t
structure XL (X : Cx) (Λ : Lx) (w : WX) (e : Expr) (t : DA) : Prop where
  ex : X.K = Λ.B.K → ∃ te, PE X e te ∧ SndL Λ w te t
structure XS (X : Cx) (Λ : Lx) (w : WX) (e : Stmt) (t : DS) : Prop where
  ex : X.K = Λ.B.K → ∃ te, PS X e te ∧ SndS Λ w te t
structure XSs (X : Cx) (Λ : Lx) (w : WX) (e : List Stmt) (t : DS) : Prop where
  ex : X.K = Λ.B.K → ∃ te, PSs X e te ∧ SndS Λ w te t
structure XG (X : Cx) (Λ : Lx) (e : Expr) (t : DG) (js : List Nat) : Prop where
  ex : X.K = Λ.B.K → ∃ te, PG X e te ∧ SndG Λ te t js
structure XI (X : Cx) (Λ : Lx) (w : WX) (tg e : Expr) (t : DA) : Prop where
  ex : X.K = Λ.B.K → ∃ te, PI X tg e te ∧ SndI Λ w te t
section
variable {X : Cx} {Λ : Lx} {w : WX} {a b c e : Expr} {es : List Expr} {ta tb tc t : DE} {tA tB : DT} {pos : Pos}
/-! ### names, constants -/
def dVar (i : Nat) : DE := fun env q _ => match env[i]? with
  | some (.va d) => q d
  | _ => False
def dC (d : D) : DE := fun _ q _ => q d
theorem snd_var {i : Nat} : Snd Λ w (tVar i) (dVar i) := fun env W σ H Q q x S _ h k => by
  unfold dVar at h
  split at h
  · rename_i d hd
    obtain ⟨v, h1, h2⟩ := S.sl i _ hd
    exact ⟨v, h1, k d v H h S .refl h2⟩
  · exact h.elim
theorem snd_c {v : V} {d : D} (r : ∀ H, Rep Λ.B H d v) : Snd Λ w (tC v) (dC d) := fun env W σ H Q q x S _ h k => k d v H h S .refl (r _)
theorem xe_of {te : TE} (h : PE X a te) (s : Snd Λ w te t) : XE X Λ w a t := ⟨fun _ => ⟨te, h, s⟩⟩
theorem xe_int {i : Int} {j : Nat} : XE X Λ w (.Constant (.int i) j pos) (dC (.int i)) := xe_of pe_int (snd_c fun _ => rfl)
theorem xe_bl {i : Bool} {j : Nat} : XE X Λ w (.Constant (.bool i) j pos) (dC (.bl i)) := xe_of pe_bl (snd_c fun _ => rfl)
theorem xe_non {j : Nat} : XE X Λ w (.Constant .none j pos) (dC .non) := xe_of pe_non (snd_c fun _ => rfl)
theorem xe_str {i : Str} {j : Nat} : XE X Λ w (.Constant (.str i) j pos) (dC (.str i)) := xe_of pe_str (snd_c fun _ => rfl)
theorem xe_glob {y : Str} {u : Value} {v : V} {d : D} {p : Pos} (h : PE X (.Name y p) (tC v)) (r : ∀ H, Rep Λ.B H d v) : XE X Λ w (.Name y p) (dC d) := xe_of h (snd_c r)
/-! ### operators -/
def dOp (f : D → D → DK) (a b : DE) : DE := fun env q x => a env (fun u => b env (fun v => f u v q x) x) x
def dUn (f : D → DK) (a : DE) : DE := fun env q x => a env (fun u => f u q x) x
theorem snd_op {r : R2} {f : D → D → DK} {ra rb : TE} (hr : SndR Λ w r f) (ha : Snd Λ w ra ta) (hb : Snd Λ w rb tb) : Snd Λ w (tOp r ra rb) (dOp f ta tb) := fun env W σ H Q q x S hx h k =>
  ha env W σ H _ _ x S hx h fun d v H1 h1 S1 e1 r1 => hb env W σ H1 _ _ x S1 (hx.on e1) h1 fun d2 v2 H2 h2 S2 e2 r2 =>
    hr env W σ H2 d d2 v v2 Q q x S2 (hx.on (e1.trans e2)) (r1.up e2.vis) r2 h2 fun d3 v3 H3 h3 S3 e3 r3 => k d3 v3 H3 h3 S3 ((e1.trans e2).trans e3) r3
theorem snd_un {r : V → Hp → VK → Prop} {f : D → DK} {ra : TE} (hr : SndU Λ w r f) (ha : Snd Λ w ra ta) : Snd Λ w (tUn r ra) (dUn f ta) := fun env W σ H Q q x S hx h k =>
  ha env W σ H _ _ x S hx h fun d v H1 h1 S1 e1 r1 => hr env W σ H1 d v Q q x S1 (hx.on e1) r1 h1 fun d3 v3 H3 h3 S3 e3 r3 => k d3 v3 H3 h3 S3 (e1.trans e3) r3
theorem xe_op {op : Operator} {r : R2} {f : D → D → DK} (ho : X.K = Λ.B.K → OpR X (binaryOp op) r) (hr : SndR Λ w r f) (ha : XE X Λ w a ta) (hb : XE X Λ w b tb) : XE X Λ w (.BinOp a op b pos) (dOp f ta tb) := ⟨fun hK => by
  obtain ⟨ra, pa, sa⟩ := ha.ex hK
  obtain ⟨rb, pb, sb⟩ := hb.ex hK
  exact ⟨_, pe_op (ho hK) pa pb, snd_op hr sa sb⟩⟩
theorem xe_un {op : UnaryOp} {r : V → Hp → VK → Prop} {f : D → DK} (ho : X.K = Λ.B.K → UnR X (unaryOp op) r) (hr : SndU Λ w r f) (ha : XE X Λ w a ta) : XE X Λ w (.UnaryOp op a pos) (dUn f ta) := ⟨fun hK => by
  obtain ⟨ra, pa, sa⟩ := ha.ex hK
  exact ⟨_, pe_un (ho hK) pa, snd_un hr sa⟩⟩
theorem xe_cmp {op : CmpOp} {r : R2} {f : D → D → DK} (ho : X.K = Λ.B.K → OpR X (compareOp op) r) (hr : SndR Λ w r f) (ha : XE X Λ w a ta) (hb : XE X Λ w b tb) (hm : behindInMarks op b = false) : XE X Λ w (.Compare a [op] [b] pos) (dOp f ta tb) := ⟨fun hK => by
  obtain ⟨ra, pa, sa⟩ := ha.ex hK
  obtain ⟨rb, pb, sb⟩ := hb.ex hK
  exact ⟨_, pe_cmpR (ho hK) pa pb hm, snd_op hr sa sb⟩⟩
/-- a value as a test -/
def dTest (t : DE) : DT := fun env q x => t env (fun d => match d with
  | .bl k => q k
  | _ => False) x
theorem snd_test {ra : TE} (ha : Snd Λ w ra ta) : SndT Λ w (tTest ra) (dTest ta) := fun env W σ H Q q x S hx h k =>
  ha env W σ H _ _ x S hx h fun d v H1 h1 S1 e1 r1 => by
    cases d with
    | bl b => exact ⟨b, r1, k b H1 h1 S1 e1⟩
    | _ => exact h1.elim
theorem xt_cmp {op : CmpOp} {r : R2} {f : D → D → DK} (ho : X.K = Λ.B.K → OpR X (compareOp op) r) (hr : SndR Λ w r f) (ha : XE X Λ w a ta) (hb : XE X Λ w b tb) (hm : behindInMarks op b = false) : XT X Λ w (.Compare a [op] [b] pos) (dTest (dOp f ta tb)) := ⟨fun hK => by
  obtain ⟨ra, pa, sa⟩ := ha.ex hK
  obtain ⟨rb, pb, sb⟩ := hb.ex hK
  exact ⟨_, pt_cmpR (ho hK) pa pb hm, snd_test (snd_op hr sa sb)⟩⟩
def dChain (f g : D → D → DK) (a b c : DE) : DE := fun env q x => a env (fun u => b env (fun v => f u v (fun z => match z with
  | .bl k => iteB k (c env (fun y => g v y q x) x) (q (.bl false))
  | _ => False) x) x) x
theorem snd_chain {r r' : R2} {f g : D → D → DK} {ra rb rc : TE} (hr : SndR Λ w r f) (hr' : SndR Λ w r' g) (ha : Snd Λ w ra ta) (hb : Snd Λ w rb tb) (hc : Snd Λ w rc tc) : Snd Λ w (tChain r r' ra rb rc) (dChain f g ta tb tc) := fun env W σ H Q q x S hx h k =>
  ha env W σ H _ _ x S hx h fun d v H1 h1 S1 e1 r1 => hb env W σ H1 _ _ x S1 (hx.on e1) h1 fun d2 v2 H2 h2 S2 e2 r2 =>
    hr env W σ H2 d d2 v v2 _ _ x S2 (hx.on (e1.trans e2)) (r1.up e2.vis) r2 h2 fun d3 v3 H3 h3 S3 e3 r3 => by
      cases d3 with
      | bl b =>
        refine ⟨b, r3, ?_⟩
        exact Bool.casesOn (motive := fun b => iteB b (tc env (fun y => g d2 y q x) x) (q (.bl false)) → (if b = true then rc σ H3 fun w' H4 => r' v2 w' H4 Q else Q (.bl false) H3)) b
          (fun h3 => k _ _ H3 h3 S3 ((e1.trans e2).trans e3) rfl)
          (fun h3 => hc env W σ H3 _ _ x S3 (hx.on ((e1.trans e2).trans e3)) h3 fun d4 v4 H4 h4 S4 e4 r4 =>
            hr' env W σ H4 d2 d4 v2 v4 Q q x S4 (hx.on (((e1.trans e2).trans e3).trans e4)) ((r2.up e3.vis).up e4.vis) r4 h4 fun d5 v5 H5 h5 S5 e5 r5 => k d5 v5 H5 h5 S5 ((((e1.trans e2).trans e3).trans e4).trans e5) r5) h3
      | _ => exact h3.elim
theorem xe_chain {op op' : CmpOp} {r r' : R2} {f g : D → D → DK} (ho : X.K = Λ.B.K → OpR X (compareOp op) r) (hr : SndR Λ w r f) (ho' : X.K = Λ.B.K → OpR X (compareOp op') r') (hr' : SndR Λ w r' g) (ha : XE X Λ w a ta) (hb : XE X Λ w b tb) (hc : XE X Λ w c tc)
    (hm : lastMarks [op, op'] [b, c] = false := by with_unfolding_all rfl) : XE X Λ w (.Compare a [op, op'] [b, c] pos) (dChain f g ta tb tc) := ⟨fun hK => by
  obtain ⟨ra, pa, sa⟩ := ha.ex hK
  obtain ⟨rb, pb, sb⟩ := hb.ex hK
  obtain ⟨rc, pc, sc⟩ := hc.ex hK
  exact ⟨_, pe_chain (ho hK) (ho' hK) pa pb pc hm, snd_chain hr hr' sa sb sc⟩⟩
theorem xt_chain {op op' : CmpOp} {r r' : R2} {f g : D → D → DK} (ho : X.K = Λ.B.K → OpR X (compareOp op) r) (hr : SndR Λ w r f) (ho' : X.K = Λ.B.K → OpR X (compareOp op') r') (hr' : SndR Λ w r' g) (ha : XE X Λ w a ta) (hb : XE X Λ w b tb) (hc : XE X Λ w c tc)
    (hm : lastMarks [op, op'] [b, c] = false := by with_unfolding_all rfl) : XT X Λ w (.Compare a [op, op'] [b, c] pos) (dTest (dChain f g ta tb tc)) := ⟨fun hK => by
  obtain ⟨ra, pa, sa⟩ := ha.ex hK
  obtain ⟨rb, pb, sb⟩ := hb.ex hK
  obtain ⟨rc, pc, sc⟩ := hc.ex hK
  exact ⟨_, pt_chain (ho hK) (ho' hK) pa pb pc hm, snd_test (snd_chain hr hr' sa sb sc)⟩⟩
/-! ### truth -/
def truD : D → (Bool → Prop) → Prop
  | .non, q => q false
  | .bl b, q => q b
  | .int i, q => q (i != 0)
  | .str y, q => y.length ≤ 100000 ∧ q ((y.length : Int) != 0)
  | .lst xs, q => q (!xs.isEmpty)
  | .tup xs, q => q (!xs.isEmpty)
  | _, _ => False
theorem RepL.emp {B : Tb} {H : Hp} {ds : List D} {vs : List V} (h : RepL B H ds vs) : vs.isEmpty = ds.isEmpty := by
  have := h.len
  cases ds <;> cases vs <;> simp_all
theorem tru_rep {W : Ow} {H : Hp} {d : D} {v : V} {q : Bool → Prop} (r : Rep Λ.B (Λ.vis W H) d v) (h : truD d q) : ∃ k, TruV Λ.B.K v H k ∧ q k := by
  cases d with
  | non => cases r; exact ⟨false, rfl, h⟩
  | bl b => cases r; exact ⟨b, rfl, h⟩
  | int i => cases r; exact ⟨_, rfl, h⟩
  | str y => cases r; exact ⟨_, ⟨sz h.1, rfl⟩, h.2⟩
  | lst xs =>
    obtain ⟨a, vs, rfl, h1, h2⟩ := r
    exact ⟨_, .inl ⟨vs, sqL_of (hid_le _ _ h1), by rw [h2.emp]⟩, h⟩
  | tup xs =>
    obtain ⟨a, vs, rfl, h1, h2⟩ := r
    exact ⟨_, .inr (.inl ⟨vs, Same_seqT hid_le h1, by rw [h2.emp]⟩), h⟩
  | _ => exact h.elim
def dTruth (t : DE) : DT := fun env q x => t env (fun d => truD d q) x
theorem xt_truth (ha : XE X Λ w a ta) (he : ∀ whole, isTrue a X.env whole = (do let v ← whole; standAt a.pos; holding [v] (truthy v))) : XT X Λ w a (dTruth ta) := ⟨fun hK => by
  obtain ⟨ra, pa, sa⟩ := ha.ex hK
  refine ⟨_, pt_truth pa he, fun env W σ H Q q x S hx h k => sa env W σ H _ _ x S hx h fun d v H1 h1 S1 e1 r1 => ?_⟩
  obtain ⟨b, hb, hq⟩ := tru_rep r1 h1
  rw [hK]
  exact ⟨b, hb, k b H1 hq S1 e1⟩⟩
def dAnd (t u : DT) : DT := fun env q x => t env (fun c => iteB c (u env q x) (q false)) x
def dOr (t u : DT) : DT := fun env q x => t env (fun c => iteB c (q true) (u env q x)) x
def dNot (t : DT) : DT := fun env q x => t env (fun c => q (!c)) x
theorem snd_and {ra rb : TT} (ha : SndT Λ w ra tA) (hb : SndT Λ w rb tB) : SndT Λ w (tAnd ra rb) (dAnd tA tB) := fun env W σ H Q q x S hx h k =>
  ha env W σ H _ _ x S hx h fun b H1 h1 S1 e1 => by
    cases b with
    | true => exact hb env W σ H1 Q q x S1 (hx.on e1) h1 fun b2 H2 h2 S2 e2 => k b2 H2 h2 S2 (e1.trans e2)
    | false => exact k false H1 h1 S1 e1
theorem snd_or {ra rb : TT} (ha : SndT Λ w ra tA) (hb : SndT Λ w rb tB) : SndT Λ w (tOr ra rb) (dOr tA tB) := fun env W σ H Q q x S hx h k =>
  ha env W σ H _ _ x S hx h fun b H1 h1 S1 e1 => by
    cases b with
    | false => exact hb env W σ H1 Q q x S1 (hx.on e1) h1 fun b2 H2 h2 S2 e2 => k b2 H2 h2 S2 (e1.trans e2)
    | true => exact k true H1 h1 S1 e1
theorem xt_not (ha : XT X Λ w a tA) : XT X Λ w (.UnaryOp .Not a pos) (dNot tA) := ⟨fun hK => by
  obtain ⟨ra, pa, sa⟩ := ha.ex hK
  exact ⟨_, pt_not pa, fun env W σ H Q q x S hx h k => sa env W σ H _ _ x S hx h fun b H1 h1 S1 e1 => k _ H1 h1 S1 e1⟩⟩
theorem xw_and {r : List Expr} (ha : XT X Λ w a tA) (hb : XW X Λ w (.BoolOp .And (b :: r) pos) tB) : XW X Λ w (.BoolOp .And (a :: b :: r) pos) (dAnd tA tB) := ⟨fun hK => by
  obtain ⟨ra, pa, sa⟩ := ha.ex hK
  obtain ⟨rb, pb, sb⟩ := hb.ex hK
  exact ⟨_, pw_and pa pb, snd_and sa sb⟩⟩
theorem xw_or {r : List Expr} (ha : XT X Λ w a tA) (hb : XW X Λ w (.BoolOp .Or (b :: r) pos) tB) : XW X Λ w (.BoolOp .Or (a :: b :: r) pos) (dOr tA tB) := ⟨fun hK => by
  obtain ⟨ra, pa, sa⟩ := ha.ex hK
  obtain ⟨rb, pb, sb⟩ := hb.ex hK
  exact ⟨_, pw_or pa pb, snd_or sa sb⟩⟩
theorem xw_and1 (ha : XT X Λ w a tA) : XW X Λ w (.BoolOp .And [a] pos) tA := ⟨fun hK => by
  obtain ⟨ra, pa, sa⟩ := ha.ex hK
  exact ⟨_, pw_and1 pa, sa⟩⟩
theorem xw_or1 (ha : XT X Λ w a tA) : XW X Λ w (.BoolOp .Or [a] pos) tA := ⟨fun hK => by
  obtain ⟨ra, pa, sa⟩ := ha.ex hK
  exact ⟨_, pw_or1 pa, sa⟩⟩
theorem XW.xt (ha : XW X Λ w a tA) : XT X Λ w a tA := ⟨fun hK => by
  obtain ⟨ra, pa, sa⟩ := ha.ex hK
  exact ⟨_, pa.pt, sa⟩⟩
/-! and, or, not as values (by truth) -/
def dAndT (t u : DE) : DE := fun env q x => t env (fun d => truD d fun k => iteB k (u env q x) (q d)) x
def dOrT (t u : DE) : DE := fun env q x => t env (fun d => truD d fun k => iteB k (q d) (u env q x)) x
def dNotT (t : DE) : DE := fun env q x => t env (fun d => truD d fun k => q (.bl (!k))) x
theorem xe_andT {r : List Expr} (ha : XE X Λ w a ta) (hb : XE X Λ w (.BoolOp .And (b :: r) pos) tb) : XE X Λ w (.BoolOp .And (a :: b :: r) pos) (dAndT ta tb) := ⟨fun hK => by
  obtain ⟨ra, pa, sa⟩ := ha.ex hK
  obtain ⟨rb, pb, sb⟩ := hb.ex hK
  refine ⟨_, pe_andT pa pb, fun env W σ H Q q x S hx h k => sa env W σ H _ _ x S hx h fun d v H1 h1 S1 e1 r1 => ?_⟩
  obtain ⟨c, hc, hq⟩ := tru_rep r1 h1
  rw [hK]
  refine ⟨c, hc, ?_⟩
  cases c with
  | true => exact sb env W σ H1 Q q x S1 (hx.on e1) hq fun b2 v2 H2 h2 S2 e2 => k b2 v2 H2 h2 S2 (e1.trans e2)
  | false => exact k d v H1 hq S1 e1 r1⟩
theorem xe_orT {r : List Expr} (ha : XE X Λ w a ta) (hb : XE X Λ w (.BoolOp .Or (b :: r) pos) tb) : XE X Λ w (.BoolOp .Or (a :: b :: r) pos) (dOrT ta tb) := ⟨fun hK => by
  obtain ⟨ra, pa, sa⟩ := ha.ex hK
  obtain ⟨rb, pb, sb⟩ := hb.ex hK
  refine ⟨_, pe_orT pa pb, fun env W σ H Q q x S hx h k => sa env W σ H _ _ x S hx h fun d v H1 h1 S1 e1 r1 => ?_⟩
  obtain ⟨c, hc, hq⟩ := tru_rep r1 h1
  rw [hK]
  refine ⟨c, hc, ?_⟩
  cases c with
  | false => exact sb env W σ H1 Q q x S1 (hx.on e1) hq fun b2 v2 H2 h2 S2 e2 => k b2 v2 H2 h2 S2 (e1.trans e2)
  | true => exact k d v H1 hq S1 e1 r1⟩
theorem xe_notT (ha : XE X Λ w a ta) : XE X Λ w (.UnaryOp .Not a pos) (dNotT ta) := ⟨fun hK => by
  obtain ⟨ra, pa, sa⟩ := ha.ex hK
  refine ⟨_, pe_notT pa, fun env W σ H Q q x S hx h k => sa env W σ H _ _ x S hx h fun d v H1 h1 S1 e1 r1 => ?_⟩
  obtain ⟨c, hc, hq⟩ := tru_rep r1 h1
  rw [hK]
  exact ⟨c, hc, k _ _ H1 hq S1 e1 rfl⟩⟩
theorem xe_one {op : BoolOp} (ha : XE X Λ w a ta) : XE X Λ w (.BoolOp op [a] pos) ta := ⟨fun hK => by
  obtain ⟨ra, pa, sa⟩ := ha.ex hK
  exact ⟨_, pe_one pa, sa⟩⟩
def dIf (t : DT) (a b : DE) : DE := fun env q x => t env (fun c => iteB c (a env q x) (b env q x)) x
theorem xe_if (hc : XT X Λ w c tA) (ha : XE X Λ w a ta) (hb : XE X Λ w b tb) : XE X Λ w (.IfExp c a b pos) (dIf tA ta tb) := ⟨fun hK => by
  obtain ⟨rc, pc, sc⟩ := hc.ex hK
  obtain ⟨ra, pa, sa⟩ := ha.ex hK
  obtain ⟨rb, pb, sb⟩ := hb.ex hK
  refine ⟨_, pe_ifExp pc pa pb, fun env W σ H Q q x S hx h k => sc env W σ H _ _ x S hx h fun c H1 h1 S1 e1 => ?_⟩
  cases c with
  | true => exact sa env W σ H1 Q q x S1 (hx.on e1) h1 fun b2 v2 H2 h2 S2 e2 => k b2 v2 H2 h2 S2 (e1.trans e2)
  | false => exact sb env W σ H1 Q q x S1 (hx.on e1) h1 fun b2 v2 H2 h2 S2 e2 => k b2 v2 H2 h2 S2 (e1.trans e2)⟩
/-! ### arguments, displays -/
def dNil : DA := fun _ q _ => q []
def dCons (t : DE) (u : DA) : DA := fun env q x => t env (fun d => u env (fun ds => q (d :: ds)) x) x
theorem xa_nil : XA X Λ w [] dNil := ⟨fun _ => ⟨_, pa_nil, fun env W σ H Q q x S hx h k => k [] [] H h S .refl rfl⟩⟩
theorem xa_cons {u : DA} (ha : XE X Λ w e ta) (hb : XA X Λ w es u) (hs : starEach (e :: es) X.env = (false, eval e X.env) :: starEach es X.env := by rfl) : XA X Λ w (e :: es) (dCons ta u) := ⟨fun hK => by
  obtain ⟨ra, pa, sa⟩ := ha.ex hK
  obtain ⟨rb, pb, sb⟩ := hb.ex hK
  refine ⟨_, pa_cons pa pb hs, fun env W σ H Q q x S hx h k => sa env W σ H _ _ x S hx h fun d v H1 h1 S1 e1 r1 => sb env W σ H1 _ _ x S1 (hx.on e1) h1 fun ds vs H2 h2 S2 e2 r2 => ?_⟩
  exact k (d :: ds) (v :: vs) H2 h2 S2 (e1.trans e2) ⟨v, vs, rfl, r1.up e2.vis, r2⟩⟩
theorem vis_new {env : List Sl} {W : Ow} {σ : L2.St} {H : Hp} {p : Addr} {o : HO} (S : StOk Λ env W σ H) (hp : H p = none) : Λ.vis W (upd H p o) p = some o := hid_some.mpr ⟨S.fresh hp, upd_same⟩
def dTup (u : DA) : DE := fun env q x => u env (fun ds => ds.length ≤ 100000 ∧ q (.tup ds)) x
theorem xe_tup {u : DA} {x1} (ha : XA X Λ w es u) : XE X Λ w (.Tuple es x1 pos) (dTup u) := ⟨fun hK => by
  obtain ⟨ra, pa, sa⟩ := ha.ex hK
  refine ⟨_, pe_tup pa, fun env W σ H Q q x S hx h k => sa env W σ H _ _ x S hx h fun ds vs H1 h1 S1 e1 r1 => ⟨by rw [r1.len]; exact sz h1.1, fun p hp => ?_⟩⟩
  have s := same_new (o := .tup vs) hp
  exact k _ _ _ h1.2 (S1.grow s) (e1.trans (.of s)) ⟨p, vs, rfl, sqT_of (vis_new S1 hp), r1.up (vis_same s)⟩⟩
def dLst (u : DA) : DA := fun env q x => u env (fun ds => ds.length ≤ 100000 ∧ q ds) x
theorem vis_hid {env : List Sl} {W : Ow} {σ : L2.St} {H : Hp} {p : Addr} {o : HO} (S : StOk Λ env W σ H) (hp : H p = none) : Same (Λ.vis W H) (hid (fun a => a = p) (Λ.vis W (upd H p o))) := fun a u h => by
  obtain ⟨g, h⟩ := hid_some.mp h
  have n := ne_of_none h hp
  exact hid_some.mpr ⟨n, hid_some.mpr ⟨g, by rw [upd_ne n]; exact h⟩⟩
theorem xl_lst {u : DA} (ha : XA X Λ w es u) : XL X Λ w (.List es pos) (dLst u) := ⟨fun hK => by
  obtain ⟨ra, pa, sa⟩ := ha.ex hK
  refine ⟨_, pe_lst pa, fun env W σ H Q q x S hx h k => sa env W σ H _ _ x S hx h fun ds vs H1 h1 S1 e1 r1 => ⟨by rw [r1.len]; exact sz h1.1, fun p hp => ?_⟩⟩
  have s := same_new (o := .lst vs) hp
  exact k _ p vs _ h1.2 (S1.grow s) (e1.trans (.of s)) (e1.free hp) upd_same (r1.up (vis_hid S1 hp))⟩
/-- a new list as a value -/
def dL (u : DA) : DE := fun env q x => u env (fun ds => q (.lst ds)) x
theorem SndL.snd {ra : TE} {u : DA} (h : SndL Λ w ra u) : Snd Λ w ra (dL u) := fun env W σ H Q q x S hx hh k => h env W σ H Q _ x S hx hh fun ds p vs H' h1 S1 e1 hp h2 r =>
  k _ _ H' h1 S1 e1 ⟨p, vs, rfl, hid_some.mpr ⟨S.fresh hp, h2⟩, r.up hid_le⟩
theorem XL.xe {u : DA} (h : XL X Λ w e u) : XE X Λ w e (dL u) := ⟨fun hK => by
  obtain ⟨ra, pa, sa⟩ := h.ex hK
  exact ⟨_, pa, sa.snd⟩⟩
end
end Eb

/-! ## own layer: statements, loops, comprehensions without a heap -/
namespace Eb
open PySem PySem.Spec PyProof.Rows L2
section
variable {X : Cx} {Λ : Lx} {w : WX} {a b c e : Expr} {es : List Expr} {ta tb tc t : DE} {tA tB : DT} {pos : Pos} {st : Stmt} {sts : List Stmt} {ts us : DS}
theorem xe_var {i : Nat} {y : Str} {p : Pos} (h : PE X (.Name y p) (tVar i)) : XE X Λ w (.Name y p) (dVar i) := xe_of h snd_var
def dNext : DS := fun env e => e.nx env
def dSeq (t u : DS) : DS := fun env e => t env { e with nx := fun env' => u env' e }
theorem snd_next : SndS Λ w tNext dNext := fun env W σ H E e S L h => L.nx env W σ H h S (Same.refl _)
theorem snd_seq {r r' : TS} (h1 : SndS Λ w r ts) (h2 : SndS Λ w r' us) : SndS Λ w (tSeq r r') (dSeq ts us) := fun env W σ H E e S L h =>
  h1 env W σ H { E with nx := r' E } { e with nx := fun env' => us env' e } S ⟨fun env' W' σ' H' a S' s => h2 env' W' σ' H' E e S' (L.on s) a, L.bk, L.ct, L.rt, L.ex⟩ h
theorem xss_nil : XSs X Λ w [] dNext := ⟨fun _ => ⟨_, pss_nil, snd_next⟩⟩
theorem xss_cons (h1 : XS X Λ w st ts) (h2 : XSs X Λ w sts us) : XSs X Λ w (st :: sts) (dSeq ts us) := ⟨fun hK => by
  obtain ⟨r, p, s⟩ := h1.ex hK
  obtain ⟨r', p', s'⟩ := h2.ex hK
  exact ⟨_, pss_cons p p', snd_seq s s'⟩⟩
theorem xss_one (h1 : XS X Λ w st ts) : XSs X Λ w [st] ts := ⟨fun hK => by
  obtain ⟨r, p, s⟩ := h1.ex hK
  exact ⟨_, pss_one p, s⟩⟩
theorem xs_pass : XS X Λ w (.Pass pos) dNext := ⟨fun _ => ⟨_, ps_pass, snd_next⟩⟩
def dBreak : DS := fun env e => e.bk env
def dCont : DS := fun env e => e.ct env
theorem xs_break : XS X Λ w (.Break pos) dBreak := ⟨fun _ => ⟨_, ps_break, fun env W σ H E e S L h => L.bk env W σ H h S (Same.refl _)⟩⟩
theorem xs_continue : XS X Λ w (.Continue pos) dCont := ⟨fun _ => ⟨_, ps_continue, fun env W σ H E e S L h => L.ct env W σ H h S (Same.refl _)⟩⟩
def dNever : DS := fun _ _ => False
theorem xs_never : XS X Λ w st dNever := ⟨fun _ => ⟨_, ps_never, fun env W σ H E e S L h => h.elim⟩⟩
theorem xs_doc {x j p'} : XS X Λ w (.Expr (.Constant (.str x) j pos) p') dNext := ⟨fun _ => ⟨_, ps_doc, snd_next⟩⟩
def dDrop (t : DE) : DS := fun env e => t env (fun _ => e.nx env) (e.ex env)
theorem xs_expr (h : XE X Λ w a t) (hs : swapsWith a none pos.line X.env = pure false := by rfl) : XS X Λ w (.Expr a pos) (dDrop t) := ⟨fun hK => by
  obtain ⟨r, p, s⟩ := h.ex hK
  exact ⟨_, ps_expr p hs, fun env W σ H E e S L h => s env W σ H _ _ _ S L.xok h fun d v H' q S' ev r => L.nx env W σ H' q S' ev.vis⟩⟩
def dRet (t : DE) : DS := fun env e => t env (e.rt env) (e.ex env)
theorem out_of {W : Ow} {H : Hp} : Same (Λ.vis W H) (Λ.out H) := hid_anti fun a g => g.elim .inl fun z => .inr (.inl z)
theorem xs_ret (h : XE X Λ w a t) : XS X Λ w (.Return (some a) pos) (dRet t) := ⟨fun hK => by
  obtain ⟨r, p, s⟩ := h.ex hK
  exact ⟨_, ps_ret p, fun env W σ H E e S L h => s env W σ H _ _ _ S L.xok h fun d v H' q S' ev r => L.rt d v env W σ H' q S' r⟩⟩
def dRetN : DS := fun env e => e.rt env .non
theorem xs_retN : XS X Λ w (.Return none pos) dRetN := ⟨fun _ => ⟨_, ps_retN, fun env W σ H E e S L h => L.rt .non .non env W σ H h S rfl⟩⟩
def dIfS (c : DT) (t u : DS) : DS := fun env e => c env (fun b => iteB b (t env e) (u env e)) (e.ex env)
theorem xs_if {s1 s2 : List Stmt} (hc : XT X Λ w c tA) (h1 : XSs X Λ w s1 ts) (h2 : XSs X Λ w s2 us) : XS X Λ w (.If c s1 s2 pos) (dIfS tA ts us) := ⟨fun hK => by
  obtain ⟨rc, pc, sc⟩ := hc.ex hK
  obtain ⟨r1, p1, q1⟩ := h1.ex hK
  obtain ⟨r2, p2, q2⟩ := h2.ex hK
  refine ⟨_, ps_if pc p1 p2, fun env W σ H E e S L h => sc env W σ H _ _ _ S L.xok h fun b H' hb S' ev => ?_⟩
  cases b with
  | true => exact q1 env W σ H' E e S' (L.on ev.vis) hb
  | false => exact q2 env W σ H' E e S' (L.on ev.vis) hb⟩
/-! ### targets -/
def gN (i : Nat) : DG := fun d env q => q (env.set i (.va d))
theorem wipe_set {σ : L2.St} {i : Nat} {o : Option V} : ∀ {vs : List Nat}, i ∈ vs → wipe (σ.set i o) vs = wipe σ vs
  | [], h => by cases h
  | v :: vs, h => by
    unfold wipe
    by_cases q : i ∈ vs
    · rw [wipe_set q]
    · have e : i = v := by
        rcases List.mem_cons.mp h with e | e
        · exact e
        · exact absurd e q
      subst e
      clear h
      induction vs with
      | nil => simp [wipe]
      | cons u us ih =>
        have n : u ≠ i := fun z => q (by simp [z])
        unfold wipe
        rw [List.set_comm _ _ n, ih fun z => q (List.mem_cons_of_mem _ z), List.set_comm _ _ n]
theorem snd_gN {i : Nat} : SndG Λ (gName i) (gN i) [i] := fun env W σ H d v q Q S r h k =>
  k _ _ h (List.length_set ..) (S.put (i := i) r) (fun vs hv => wipe_set (hv i (by simp)))
theorem xg_name {i : Nat} {y : Str} {p : Pos} (h : PG X (.Name y p) (gName i)) : XG X Λ (.Name y p) (gN i) [i] := ⟨fun _ => ⟨_, h, snd_gN⟩⟩
/-- several names -/
def gNs : List Nat → List D → List Sl → (List Sl → Prop) → Prop
  | [], [], env, q => q env
  | i :: is, d :: r, env, q => gNs is r (env.set i (.va d)) q
  | _, _, _, _ => False
def gNames : List Nat → TGs
  | [] => gNil
  | i :: is => gCons (gName i) (gNames is)
theorem snd_gNs : ∀ (is : List Nat) {env : List Sl} {W : Ow} {σ : L2.St} {H : Hp} {ds : List D} {vs : List V} {q : List Sl → Prop} {Q : L2.St → Hp → Prop}, StOk Λ env W σ H → RepL Λ.B (Λ.vis W H) ds vs → gNs is ds env q →
    (∀ env' σ', q env' → env'.length = env.length → StOk Λ env' W σ' H → (∀ us : List Nat, (∀ j ∈ is, j ∈ us) → wipe σ' us = wipe σ us) → Q σ' H) → gNames is vs σ H Q
  | [], env, W, σ, H, ds, vs, q, Q, S, r, h, k => by
    cases ds with
    | nil => exact ⟨r, k _ _ h rfl S fun _ _ => rfl⟩
    | cons d ds => exact h.elim
  | i :: is, env, W, σ, H, ds, vs, q, Q, S, r, h, k => by
    cases ds with
    | nil => exact h.elim
    | cons d rs =>
    obtain ⟨v, vr, rfl, r1, r2⟩ := r
    refine ⟨v, vr, rfl, ?_⟩
    refine snd_gNs is (S.put (i := i) r1) r2 h fun env' σ' hq hl S' hp => k env' σ' hq (hl.trans (List.length_set ..)) S' fun us hu => ?_
    rw [hp us fun j hj => hu j (List.mem_cons_of_mem _ hj)]
    exact wipe_set (hu i (by simp))
def gT (is : List Nat) : DG := fun d env q => match d with
  | .tup ds => gNs is ds env q
  | _ => False
theorem gNs_len : ∀ {is : List Nat} {ds : List D} {env : List Sl} {q : List Sl → Prop}, gNs is ds env q → ds.length = is.length
  | [], [], _, _, _ => rfl
  | i :: is, d :: r, _, _, h => by
    have := gNs_len (is := is) (ds := r) h
    simp [this]
structure XGs (X : Cx) (es : List Expr) (is : List Nat) : Prop where
  ex : PGs X es (gNames is)
theorem xgs_nil : XGs X [] [] := ⟨pgs_nil⟩
theorem xgs_cons {i : Nat} {is : List Nat} {y : Str} {p : Pos} (h : PG X (.Name y p) (gName i)) (hs : XGs X es is) (he : (assignEach (.Name y p :: es) X.env).map (·.2) = assign (.Name y p) X.env :: (assignEach es X.env).map (·.2) := by rfl) : XGs X (.Name y p :: es) (i :: is) := ⟨pgs_cons h hs.ex he⟩
theorem xg_tup {is : List Nat} {k n : Nat} (hc : X.calm = true) (h : XGs X es is) (hn : (assignEach es X.env).length = n := by rfl) (hst : (assignEach es X.env).findIdx? (·.1) = none := by rfl) (hl : n = is.length := by rfl) :
    XG X Λ (.Tuple es k pos) (gT is) is := ⟨fun hK => ⟨_, pg_tup hc h.ex hn hst, fun env W σ H d v q Q S r h k => by
  cases d with
  | tup ds =>
    obtain ⟨a, vs, rfl, h1, h2⟩ := r
    refine ⟨a, vs, rfl, by rw [hK]; exact Same_seqT hid_le h1, by rw [h2.len, gNs_len h, hl], snd_gNs is S h2 h k⟩
  | _ => exact h.elim⟩⟩
/-! ### assignments -/
def dAsg (t : DE) (g : DG) : DS := fun env e => t env (fun d => g d env e.nx) (e.ex env)
theorem snd_asg {r : TE} {g : TG} {f : DG} {js : List Nat} (hr : Snd Λ w r t) (hg : SndG Λ g f js) : SndS Λ w (tAsg r g) (dAsg t f) := fun env W σ H E e S L h =>
  hr env W σ H _ _ _ S L.xok h fun d v H' q S' ev rp => hg env W σ H' d v _ _ S' rp q fun env' σ' q2 _ S2 _ => L.nx env' W σ' H' q2 S2 ev.vis
theorem xs_asg {tg : Expr} {f : DG} {js : List Nat} (he : XE X Λ w a t) (hg : XG X Λ tg f js) (hs : swapsWithSole [tg] a pos.line X.env = pure false := by rfl) (hw : swappedStores [tg] a X.env = pure none := by rfl)
    (h1 : (assignEach [tg] X.env).map (·.2) = [assign tg X.env] := by rfl) : XS X Λ w (.Assign [tg] a pos) (dAsg t f) := ⟨fun hK => by
  obtain ⟨r, p, s⟩ := he.ex hK
  obtain ⟨r', p', s'⟩ := hg.ex hK
  exact ⟨_, ps_asg p p' hs hw h1, snd_asg s s'⟩⟩
abbrev dSet (i : Nat) (t : DE) : DS := dAsg t (gN i)
theorem xs_set {i : Nat} {y : Str} {p : Pos} (hN : X.N.Nodup) (hi : X.N[i]? = some y) (hx : Loc X.env.scope y) (he : XE X Λ w a t) (hs : swapsWith a (some (.Name y p)) pos.line X.env = pure false := by rfl) (hf : X.fn y = true ∨ X.env.scope.names.lookup y = some .local := by first | exact .inl rfl | exact .inr rfl | assumption) :
    XS X Λ w (.Assign [.Name y p] a pos) (dSet i t) := ⟨fun hK => by
  obtain ⟨r, pp, s⟩ := he.ex hK
  exact ⟨_, ps_set hN hi hx pp hs hf, snd_asg s snd_gN⟩⟩
/-- a name is given a new list, its own -/
def dSetO (i : Nat) (u : DA) : DS := fun env e => u env (fun ds => i < env.length ∧ e.nx (env.set i (.ow ds))) (e.ex env)
theorem snd_setO {r : TE} {u : DA} {i : Nat} (hr : SndL Λ w r u) : SndS Λ w (tAsg r (gName i)) (dSetO i u) := fun env W σ H E e S L h =>
  hr env W σ H _ _ _ S L.xok h fun ds p vs H' q S' ev hp hq rp => by
    obtain ⟨S2, s2⟩ := S.putOwn S' ev hp hq rp q.1
    exact L.nx _ _ _ _ q.2 S2 s2
theorem xs_setO {u : DA} {i : Nat} {y : Str} {p : Pos} (hN : X.N.Nodup) (hi : X.N[i]? = some y) (hx : Loc X.env.scope y) (he : XL X Λ w a u) (hs : swapsWith a (some (.Name y p)) pos.line X.env = pure false := by rfl) (hf : X.fn y = true ∨ X.env.scope.names.lookup y = some .local := by first | exact .inl rfl | exact .inr rfl | assumption) :
    XS X Λ w (.Assign [.Name y p] a pos) (dSetO i u) := ⟨fun hK => by
  obtain ⟨r, pp, s⟩ := he.ex hK
  exact ⟨_, ps_set hN hi hx pp hs hf, snd_setO s⟩⟩
/-- a, b = e, f -/
def dPar (i j : Nat) (u : DA) : DS := fun env e => u env (fun ds => match ds with
  | [d1, d2] => e.nx ((env.set i (.va d1)).set j (.va d2))
  | _ => False) (e.ex env)
theorem xs_par {u : DA} {i j : Nat} {x y : Str} {px py pt : Pos} {kt k2 pt2} (hc : X.calm = true) (hN : X.N.Nodup) (hi : X.N[i]? = some x) (hj : X.N[j]? = some y) (hij : i ≠ j)
    (hx : X.env.scope.names.lookup x = some .local) (hy : X.env.scope.names.lookup y = some .local) (ha : XA X Λ w [a, b] u)
    (hw : swappedStores [.Tuple [.Name x px, .Name y py] kt pt] (.Tuple [a, b] k2 pt2) X.env = pure (some [x, y]))
    (hs : swapsWithSole [.Tuple [.Name x px, .Name y py] kt pt] (.Tuple [a, b] k2 pt2) pos.line X.env = pure false := by rfl) :
    XS X Λ w (.Assign [.Tuple [.Name x px, .Name y py] kt pt] (.Tuple [a, b] k2 pt2) pos) (dPar i j u) := ⟨fun hK => by
  obtain ⟨r, p, s⟩ := ha.ex hK
  refine ⟨_, ps_par hc hN hi hj hij hx hy p hw hs, fun env W σ H E e S L h => s env W σ H _ _ _ S L.xok h fun ds vs H' q S' ev rp => ?_⟩
  split at q
  case h_2 => exact q.elim
  rename_i d1 d2
  obtain ⟨v1, vr, rfl, r1, v2, vr2, rfl, r2, r3⟩ := rp
  cases (show vr2 = [] from r3)
  refine ⟨v1, v2, rfl, ?_⟩
  have S2 := S'.put (i := i) r1
  have S3 := S2.put (i := j) r2
  exact L.nx _ _ _ _ q S3 ev.vis⟩
/-- a, b, c = e, f, g -/
def dPar3 (i j l : Nat) (u : DA) : DS := fun env e => u env (fun ds => match ds with
  | [d1, d2, d3] => e.nx (((env.set i (.va d1)).set j (.va d2)).set l (.va d3))
  | _ => False) (e.ex env)
theorem xs_par3 {u : DA} {i j l : Nat} {x y z : Str} {px py pz pt : Pos} {kt k2 pt2} (hcalm : X.calm = true) (hN : X.N.Nodup) (hi : X.N[i]? = some x) (hj : X.N[j]? = some y) (hl : X.N[l]? = some z) (hij : i ≠ j) (hil : i ≠ l) (hjl : j ≠ l)
    (hx : X.env.scope.names.lookup x = some .local) (hy : X.env.scope.names.lookup y = some .local) (hz : X.env.scope.names.lookup z = some .local) (ha : XA X Λ w [a, b, c] u)
    (hw : swappedStores [.Tuple [.Name x px, .Name y py, .Name z pz] kt pt] (.Tuple [a, b, c] k2 pt2) X.env = pure (some [x, y, z]))
    (hs : swapsWithSole [.Tuple [.Name x px, .Name y py, .Name z pz] kt pt] (.Tuple [a, b, c] k2 pt2) pos.line X.env = pure false := by rfl) :
    XS X Λ w (.Assign [.Tuple [.Name x px, .Name y py, .Name z pz] kt pt] (.Tuple [a, b, c] k2 pt2) pos) (dPar3 i j l u) := ⟨fun hK => by
  obtain ⟨r, p, s⟩ := ha.ex hK
  refine ⟨_, ps_par3 hcalm hN hi hj hl hij hil hjl hx hy hz p hw hs, fun env W σ H E e S L h => s env W σ H _ _ _ S L.xok h fun ds vs H' q S' ev rp => ?_⟩
  split at q
  case h_2 => exact q.elim
  rename_i d1 d2 d3
  obtain ⟨v1, vr, rfl, r1, v2, vr2, rfl, r2, v3, vr3, rfl, r3, r4⟩ := rp
  cases (show vr3 = [] from r4)
  refine ⟨v1, v2, v3, rfl, ?_⟩
  have S2 := S'.put (i := i) r1
  have S3 := S2.put (i := j) r2
  have S4 := S3.put (i := l) r3
  exact L.nx _ _ _ _ q S4 ev.vis⟩
/-! ### own lists: they stand still from now on; they grow; they change -/
def dFrz (i : Nat) (t : DS) : DS := fun env e => match env[i]? with
  | some (.ow ds) => t (env.set i (.va (.lst ds))) e
  | _ => t env e
theorem snd_frz {i : Nat} {r : TS} (h : SndS Λ w r ts) : SndS Λ w r (dFrz i ts) := fun env W σ H E e S L hh => by
  unfold dFrz at hh
  split at hh
  · rename_i ds hd
    obtain ⟨S2, s2⟩ := S.freeze hd
    exact h _ _ σ H E e S2 (L.on s2) hh
  · exact h env W σ H E e S L hh
theorem xs_frz (i : Nat) (h : XS X Λ w st ts) : XS X Λ w st (dFrz i ts) := ⟨fun hK => by
  obtain ⟨r, p, s⟩ := h.ex hK
  exact ⟨_, p, snd_frz s⟩⟩
theorem own_at {env : List Sl} {W : Ow} {σ : L2.St} {H : Hp} {i : Nat} {ds : List D} (S : StOk Λ env W σ H) (h : env[i]? = some (.ow ds)) :
    ∃ p vs, W i = some p ∧ σ[i]? = some (some (.ref p)) ∧ H p = some (.lst vs) ∧ RepL Λ.B (Λ.vis W H) ds vs ∧ ¬ Λ.M p := S.sl i _ h
theorem mut_own {env : List Sl} {W : Ow} {σ : L2.St} {H : Hp} {i : Nat} {ds ds' : List D} {p : Addr} {vs' : List V} (S : StOk Λ env W σ H) (h : env[i]? = some (.ow ds)) (hw : W i = some p) (hp : H p ≠ none) (hm : ¬ Λ.M p) (hs : σ[i]? = some (some (.ref p))) (r : RepL Λ.B (Λ.vis W H) ds' vs') :
    StOk Λ (env.set i (.ow ds')) W σ (upd H p (.lst vs')) ∧ Same (Λ.vis W H) (Λ.vis W (upd H p (.lst vs'))) := by
  have v1 : Same (Λ.vis W H) (Λ.vis W (upd H p (.lst vs'))) := hid_grow fun a u g ha => ⟨g, by rw [upd_ne (show a ≠ p from fun z => g (.inr (.inr ⟨i, by rw [z]; exact hw⟩)))]; exact ha⟩
  exact S.mut hw (s := .ow ds') ⟨p, vs', hw, hs, upd_same, r.up v1, hm⟩ (List.getElem?_eq_some_iff.mp h).1
def dApp (i : Nat) (t : DE) : DS := fun env e => match env[i]? with
  | some (.ow ds) => t env (fun d => ds.length < 100000 ∧ e.nx (env.set i (.ow (ds ++ [d])))) (e.ex env)
  | _ => False
theorem xs_app {i : Nat} {y : Str} {p1 p2 p3 : Pos} (ho : PE X (.Name y p1) (tVar i)) (he : XE X Λ w a t)
    (hbase : attributeBase (.Name y p1) "append" X.env (eval (.Name y p1) X.env) = eval (.Name y p1) X.env := by rfl)
    (hfew : ((backTo p3 (starEach [a] X.env)).all (fun x => !x.1) && (backToKw p3 (keywordEach [] X.env)).all (fun x => x.1.isSome)
      && decide ([a].length + ([] : List Keyword).length + (if ([] : List Keyword).isEmpty then 0 else 1) < 30)) = true := by rfl)
    (hline : (p2.endLine == p3.line) = true := by rfl) (hs1 : starEach [a] X.env = (false, eval a X.env) :: starEach [] X.env := by rfl) (hplain : (backTo p3 (starEach [] X.env)).any (·.1) = false := by rfl)
    (hs : swapsWith (.Call (.Attribute (.Name y p1) "append" p2) [a] [] p3) none pos.line X.env = pure false := by rfl) :
    XS X Λ w (.Expr (.Call (.Attribute (.Name y p1) "append" p2) [a] [] p3) pos) (dApp i t) := ⟨fun hK => by
  obtain ⟨r, p, s⟩ := he.ex hK
  refine ⟨_, ps_expr (pe_bm PySem.F.plainAttrs_list PySem.F.slot_list_append PySem.F.type_list_append mt_append ho (pa_cons p pa_nil hs1) hbase hfew hline hs1 hplain) hs, fun env W σ H E e S L h => ?_⟩
  unfold dApp at h
  split at h
  · rename_i ds hd
    obtain ⟨l, vs, hw, hσ, hl, rl, hm⟩ := own_at S hd
    refine ⟨_, hσ, .inl ⟨rfl, _, sqL_of hl⟩, s env W σ H _ _ _ S L.xok h fun d v H' q S' ev rp => ?_⟩
    have hl' := ev.own i l _ hw hl
    refine ⟨l, vs, v, rfl, rfl, hl', by rw [rl.len]; exact szl q.1, ?_⟩
    obtain ⟨S2, s2⟩ := mut_own S' hd hw (by rw [hl']; simp) hm hσ ((rl.up ev.vis).app (.one rp))
    exact L.nx _ _ _ _ q.2 S2 (ev.vis.trans s2)
  · exact h.elim⟩
/-- xs.pop() alone -/
def dPop (i : Nat) : DS := fun env e => match env[i]? with
  | some (.ow ds) => ds ≠ [] ∧ e.nx (env.set i (.ow ds.dropLast))
  | _ => False
theorem RepL.dropLast {B : Tb} {H : Hp} {ds : List D} {vs : List V} (h : RepL B H ds vs) : RepL B H ds.dropLast vs.dropLast := by
  rw [List.dropLast_eq_take, List.dropLast_eq_take, h.len]
  exact h.take _
theorem xs_pop {i : Nat} {y : Str} {p1 p2 p3 : Pos} (ho : PE X (.Name y p1) (tVar i))
    (hbase : attributeBase (.Name y p1) "pop" X.env (eval (.Name y p1) X.env) = eval (.Name y p1) X.env := by rfl) (hline : (p2.endLine == p3.line) = true := by rfl)
    (hs : swapsWith (.Call (.Attribute (.Name y p1) "pop" p2) [] [] p3) none pos.line X.env = pure false := by rfl) :
    XS X Λ w (.Expr (.Call (.Attribute (.Name y p1) "pop" p2) [] [] p3) pos) (dPop i) := ⟨fun hK => by
  refine ⟨_, ps_expr (pe_bm0 PySem.F.plainAttrs_list PySem.F.slot_list_pop PySem.F.type_list_pop mt_pop ho hbase hline) hs, fun env W σ H E e S L h => ?_⟩
  unfold dPop at h
  split at h
  · rename_i ds hd
    obtain ⟨l, vs, hw, hσ, hl, rl, hm⟩ := own_at S hd
    have hne : 0 < vs.length := by
      rw [rl.len]
      exact List.length_pos_iff.mpr h.1
    refine ⟨_, hσ, .inl ⟨rfl, _, sqL_of hl⟩, l, vs, vs[vs.length - 1]'(by omega), rfl, rfl, hl, List.getElem?_eq_getElem (by omega), ?_⟩
    obtain ⟨S2, s2⟩ := mut_own S hd hw (by rw [hl]; simp) hm hσ rl.dropLast
    exact L.nx _ _ _ _ h.2 S2 s2
  · exact h.elim⟩
/-- xs[i] = e -/
def dSub (i : Nat) (ti t : DE) : DS := fun env e => match env[i]? with
  | some (.ow ds) => t env (fun d => ti env (fun k => ∃ n j, k = .int n ∧ ixN ds.length n = some j ∧ e.nx (env.set i (.ow (ds.set j d)))) (e.ex env)) (e.ex env)
  | _ => False
theorem xs_sub {i : Nat} {ti : DE} (hi : XE X Λ w b ti) (he : XE X Λ w a t) (f : ∀ {te : TE} {r : TE}, PE X a te → PE X b r → PS X st (tAsg te (gSub (tVar i) r rSetL))) : XS X Λ w st (dSub i ti t) := ⟨fun hK => by
  obtain ⟨r, p, s⟩ := he.ex hK
  obtain ⟨r', p', s'⟩ := hi.ex hK
  refine ⟨_, f p p', fun env W σ H E e S L h => ?_⟩
  unfold dSub at h
  split at h
  · rename_i ds hd
    obtain ⟨l, vs, hw, hσ, hl, rl, hm⟩ := own_at S hd
    refine s env W σ H _ _ _ S L.xok h fun d v H1 q S1 e1 r1 => ⟨_, hσ, s' env W σ H1 _ _ _ S1 (L.xok.on e1) q fun d2 v2 H2 q2 S2 e2 r2 => ?_⟩
    obtain ⟨n, j, rfl, hj, q2⟩ := q2
    have hl' := (e1.trans e2).own i l _ hw hl
    refine ⟨l, vs, n, j, rfl, r2, hl', by rw [rl.len]; exact hj, ?_⟩
    obtain ⟨S3, s3⟩ := mut_own S2 hd hw (by rw [hl']; simp) hm hσ ((rl.up (e1.trans e2).vis).set (i := j) (r1.up e2.vis))
    exact L.nx _ _ _ _ q2 S3 ((e1.trans e2).vis.trans s3)
  · exact h.elim⟩
/-! ### loops -/
def dWhile (c : DT) (b : DS) : DS := fun env e => ∃ P : Nat → List Sl → Prop, (∃ m, P m env) ∧ ∀ m env, P m env → c env (fun k => iteB k
    (b env { e with nx := fun env' => ∃ m', m' < m ∧ P m' env', ct := fun env' => ∃ m', m' < m ∧ P m' env', bk := e.nx }) (e.nx env)) (e.ex env)
theorem xs_while {body : List Stmt} (hp : PassesOwn (model X.prog X.w) X.A X.env X.xe) (hc : XT X Λ w c tA) (hb : XSs X Λ w body ts) : XS X Λ w (.While c body [] pos) (dWhile tA ts) := ⟨fun hK => by
  obtain ⟨rc, pc, sc⟩ := hc.ex hK
  obtain ⟨r1, p1, q1⟩ := hb.ex hK
  refine ⟨_, ps_while hp pc p1, fun env W σ H E e S L h => ?_⟩
  obtain ⟨P, ⟨m0, h0⟩, turn⟩ := h
  refine ⟨fun m σ' H' => ∃ env' W', StOk Λ env' W' σ' H' ∧ Same (Λ.vis W H) (Λ.vis W' H') ∧ P m env', ⟨m0, env, W, S, Same.refl _, h0⟩, ?_⟩
  rintro m σ' H' ⟨env', W', S', s', hm⟩
  refine sc env' W' σ' H' _ _ _ S' (L.on s').xok (turn m env' hm) fun b H1 hb S1 e1 => ?_
  cases b with
  | true =>
    refine ⟨fun σ2 H2 => ∃ m', m' < m ∧ ∃ env2 W2, StOk Λ env2 W2 σ2 H2 ∧ Same (Λ.vis W H) (Λ.vis W2 H2) ∧ P m' env2, fun _ _ z => z, ?_⟩
    have L1 := L.on (s'.trans e1.vis)
    refine q1 env' W' σ' H1 _ { e with nx := fun env' => ∃ m', m' < m ∧ P m' env', ct := fun env' => ∃ m', m' < m ∧ P m' env', bk := e.nx } S1 ⟨fun env2 W2 σ2 H2 a S2 s2 => ?_, fun env2 W2 σ2 H2 a S2 s2 => L1.nx _ _ _ _ a S2 s2, fun env2 W2 σ2 H2 a S2 s2 => ?_, L1.rt, L1.ex⟩ hb
    · obtain ⟨m', lt, hm'⟩ := a
      exact ⟨m', lt, env2, W2, S2, (s'.trans e1.vis).trans s2, hm'⟩
    · obtain ⟨m', lt, hm'⟩ := a
      exact ⟨m', lt, env2, W2, S2, (s'.trans e1.vis).trans s2, hm'⟩
  | false => exact L.nx _ _ _ _ hb S1 (s'.trans e1.vis)⟩
def loopD (g : DG) (b : DS) (e : DEnds) : List D → List Sl → Prop
  | [], env => e.nx env
  | d :: ds, env => g d env fun env' => b env' { e with nx := loopD g b e ds, ct := loopD g b e ds, bk := e.nx }
def dFor (it : DA) (g : DG) (b : DS) : DS := fun env e => it env (fun ds => loopD g b e ds env) (e.ex env)
theorem xs_for {tg iter : Expr} {body : List Stmt} {it : DA} {g : DG} {js : List Nat} (hp : PassesOwn (model X.prog X.w) X.A X.env X.xe) (hc : X.calm = true) (hi : XI X Λ w tg iter it) (hg : XG X Λ tg g js) (hb : XSs X Λ w body ts)
    (hs : ∀ x, foldedSetIterable iter X.env x = pure x := by intro _; rfl) : XS X Λ w (.For tg iter body [] pos) (dFor it g ts) := ⟨fun hK => by
  obtain ⟨ri, pi, si⟩ := hi.ex hK
  obtain ⟨rg, pg, sg⟩ := hg.ex hK
  obtain ⟨rb, pb, sb⟩ := hb.ex hK
  refine ⟨_, ps_for hp hc pi pg pb hs, fun env W σ H E e S L h => si env W σ H _ _ _ S L.xok h fun ds J H1 h1 S1 e1 J1 => ?_⟩
  refine ⟨fun i m σ' H' => m = ds.length - i ∧ i ≤ ds.length ∧ ∃ env' W', StOk Λ env' W' σ' H' ∧ Same (Λ.vis W H1) (Λ.vis W' H') ∧ loopD g ts e (ds.drop i) env', ⟨ds.length, by simp, Nat.zero_le _, env, W, S1, Same.refl _, h1⟩, ?_⟩
  rintro i m σ' H' ⟨rfl, hi, env', W', S', s', hl⟩
  by_cases hlt : i < ds.length
  · refine .inr ⟨J1.go i env' W' σ' H' hlt S' s', fun σ2 H2 => ∃ env2 W2, StOk Λ env2 W2 σ2 H2 ∧ Same (Λ.vis W H1) (Λ.vis W2 H2) ∧ loopD g ts e (ds.drop (i + 1)) env2, fun σ2 H2 ⟨env2, W2, z⟩ => ⟨ds.length - (i + 1), by omega, rfl, hlt, env2, W2, z⟩, fun x H2 y => ?_⟩
    obtain ⟨sm, d, hd, rd⟩ := J1.yld i x env' W' σ' H' H2 hlt S' s' y
    rw [List.drop_eq_getElem_cons hlt] at hl
    have ed : ds[i] = d := by
      rw [List.getElem?_eq_getElem hlt] at hd
      exact Option.some.inj hd
    rw [ed] at hl
    have S2 := S'.grow sm
    have s2 : Same (Λ.vis W H1) (Λ.vis W' H2) := s'.trans (vis_same sm)
    refine sg env' W' σ' H2 d x _ _ S2 rd hl fun env3 σ3 q3 _ S3 _ => ?_
    have s13 := s2
    have L3 := L.on (e1.vis.trans s13)
    exact sb env3 W' σ3 H2 _ { e with nx := loopD g ts e (ds.drop (i + 1)), ct := loopD g ts e (ds.drop (i + 1)), bk := e.nx } S3 ⟨fun env4 W4 σ4 H4 a S4 s4 => ⟨env4, W4, S4, s13.trans s4, a⟩, fun env4 W4 σ4 H4 a S4 s4 => L3.nx _ _ _ _ a S4 s4, fun env4 W4 σ4 H4 a S4 s4 => ⟨env4, W4, S4, s13.trans s4, a⟩, L3.rt, L3.ex⟩ q3
  · have ei : i = ds.length := by omega
    subst ei
    rw [List.drop_length] at hl
    exact .inl ⟨J1.stop env' W' σ' H' S' s', L.nx _ _ _ _ hl S' (e1.vis.trans s')⟩⟩
/-! ### comprehensions -/
def wipeE (env : List Sl) : List Nat → List Sl
  | [] => env
  | v :: vs => (wipeE env vs).set v .un
def lcD (g : DG) (t : DT) (u : DE) (env : List Sl) (q : List D → Prop) : List D → List D → Prop
  | [], acc => q acc
  | d :: ds, acc => g d env fun env' => t env' (fun b => iteB b (u env' (fun y => acc.length < 100000 ∧ lcD g t u env q ds (acc ++ [y])) (fun _ => False)) (lcD g t u env q ds acc)) (fun _ => False)
def dLc (it : DA) (g : DG) (t : DT) (u : DE) (vs : List Nat) : DA := fun env q x => it env (fun ds => lcD g t u (wipeE env vs) q ds []) x
theorem wipe_wipe (σ : L2.St) (vs : List Nat) : wipe (wipe σ vs) vs = wipe σ vs := by
  have : ∀ us : List Nat, (∀ u ∈ us, u ∈ vs) → wipe (wipe σ us) vs = wipe σ vs := by
    intro us
    induction us with
    | nil => intro _; rfl
    | cons u us ih =>
      intro h
      show wipe ((wipe σ us).set u none) vs = _
      rw [wipe_set (h u (by simp))]
      exact ih fun z hz => h z (List.mem_cons_of_mem _ hz)
  exact this vs fun _ h => h
theorem StOk.wipe {env : List Sl} {W : Ow} {σ : L2.St} {H : Hp} (S : StOk Λ env W σ H) : ∀ vs : List Nat, StOk Λ (wipeE env vs) W (wipe σ vs) H
  | [] => S
  | v :: vs => (S.wipe vs).forget
theorem wipeE_len (env : List Sl) : ∀ vs, (wipeE env vs).length = env.length
  | [] => rfl
  | v :: vs => by unfold wipeE; rw [List.length_set, wipeE_len env vs]
def w0 : WX := fun _ _ _ _ => False
def dYes : DT := fun _ q _ => q true
theorem xts_nil : XTs X Λ w [] dYes := ⟨fun _ => ⟨_, pts_nil, fun env W σ H Q q x S hx h k => k true H h S .refl⟩⟩
theorem xts_one (h : XT X Λ w c tA) : XTs X Λ w [c] tA := ⟨fun hK => by
  obtain ⟨r, p, s⟩ := h.ex hK
  exact ⟨_, pts_one p, s⟩⟩
theorem snd_lc {wi : TI} {g : TG} {tt : TT} {te : TE} {it : DA} {gd : DG} {td : DT} {ud : DE} {vs js : List Nat} (hi : SndI Λ w wi it) (hg : SndG Λ g gd js) (ht : SndT Λ w0 tt td) (he : Snd Λ w0 te ud) (hjs : ∀ j ∈ js, j ∈ vs) :
    SndL Λ w (tLc wi g tt te vs) (dLc it gd td ud vs) := fun env W σ H Q q x S hx h k => hi env W σ H _ _ x S hx h fun ds J H1 h1 S1 e1 J1 Dl hD => by
  obtain ⟨n0, hn0⟩ := S1.wf
  -- the new list is hidden at a place beyond the slots
  let n := 2 * (n0 + env.length) + 1
  have hns : ¬ Sub n := by unfold Sub; omega
  have hn : W n = none := hn0 n (by omega)
  have hE : env.length ≤ n := by omega
  have up1 : Same H1 (upd H1 Dl (.lst [])) := same_new hD
  obtain ⟨S2, v1, v2⟩ := S1.hide (S1.grow up1) (.of up1) (i := n) (p := Dl) hD (by rw [upd_same]; simp) (.inl ⟨hE, hn⟩)
  have en : env.set n .un = env := List.set_eq_of_length_le hE
  rw [en] at S2
  have hnW : ∀ j, j ≠ n → W j = wput W n (some Dl) j := fun j hj => (wput_ne hj).symm
  have hW2 : wput W n (some Dl) n = some Dl := wput_same rfl
  have sub : ∀ j p, W j = some p → wput W n (some Dl) j = some p := fun j p e => by
    by_cases z : j = n
    · rw [z, hn] at e; cases e
    · rw [wput_ne z]; exact e
  generalize wput W n (some Dl) = W2 at *
  have nm : ¬ Λ.M Dl := fun z => S1.mx _ z hD
  have ww : wipe (wipe σ vs) vs = wipe σ vs := wipe_wipe σ vs
  refine ⟨fun i m H' => m = ds.length - i ∧ i ≤ ds.length ∧ StOk Λ env W2 σ H' ∧ Same (Λ.vis W H1) (Λ.vis W2 H') ∧ (∀ j p o, W j = some p → H1 p = some o → H' p = some o) ∧ (∀ b, H1 b ≠ none → H' b ≠ none) ∧
    ∃ acc vs', H' Dl = some (.lst vs') ∧ RepL Λ.B (Λ.vis W2 H') acc vs' ∧ lcD gd td ud (wipeE env vs) q (ds.drop i) acc, ⟨ds.length, by simp, Nat.zero_le _, S2, v1, fun j p o _ h => up1 _ _ h, fun b h => some_mono up1 h, [], [], upd_same, rfl, h1⟩, ?_⟩
  rintro i m H' ⟨rfl, hi, S', s', own', all', acc, vs', hDl, racc, hl⟩
  by_cases hlt : i < ds.length
  · refine .inr ⟨J1.go i env W2 σ H' hlt S' s', fun H2 => StOk Λ env W2 σ H2 ∧ Same (Λ.vis W H1) (Λ.vis W2 H2) ∧ (∀ j p o, W j = some p → H1 p = some o → H2 p = some o) ∧ (∀ b, H1 b ≠ none → H2 b ≠ none) ∧
      ∃ acc vs', H2 Dl = some (.lst vs') ∧ RepL Λ.B (Λ.vis W2 H2) acc vs' ∧ lcD gd td ud (wipeE env vs) q (ds.drop (i + 1)) acc, fun H2 z => ⟨ds.length - (i + 1), by omega, rfl, hlt, z⟩, fun y H2 hy => ?_⟩
    obtain ⟨sm, d, hd, rd⟩ := J1.yld i y env W2 σ H' H2 hlt S' s' hy
    rw [List.drop_eq_getElem_cons hlt] at hl
    have ed : ds[i] = d := by
      rw [List.getElem?_eq_getElem hlt] at hd
      exact Option.some.inj hd
    rw [ed] at hl
    have Sg := S'.grow sm
    have e0 : Ev Λ W2 H' H2 := .of sm
    refine hg (wipeE env vs) W2 (wipe σ vs) H2 d y _ _ (Sg.wipe vs) rd hl fun env3 σ3 q3 len3 S3 hp3 => ⟨by rw [hp3 vs hjs, ww], ?_⟩
    refine ht env3 W2 σ3 H2 _ _ _ S3 (fun _ _ _ _ z => z.elim) q3 fun b H3 hb S3' e3 => ?_
    have e03 := e0.trans e3
    cases b with
    | true =>
      refine he env3 W2 σ3 H3 _ _ _ S3' (fun _ _ _ _ z => z.elim) hb fun z v4 H4 h4 S4 e4 r4 => ?_
      have e04 := e03.trans e4
      have hD4 := e04.own n Dl _ hW2 hDl
      have S4' : StOk Λ env W2 σ H4 := S'.ev S4 e04
      refine ⟨vs', hD4, by rw [racc.len]; exact szl h4.1, S4'.mutV hW2 hE hns nm, ?_, ?_, ?_, acc ++ [z], vs' ++ [v4], upd_same, ?_, h4.2⟩
      · refine (s'.trans e04.vis).trans (hid_grow fun b u g hb2 => ⟨g, by rw [upd_ne (show b ≠ Dl from fun z => g (.inr (.inr ⟨n, by rw [z]; exact hW2⟩)))]; exact hb2⟩)
      · intro j p o hj hp
        rw [upd_ne (ne_of_none hp hD)]
        exact e04.own j p o (sub j p hj) (own' j p o hj hp)
      · intro b hb2
        by_cases z : b = Dl
        · rw [z, upd_same]; simp
        · rw [upd_ne z]
          exact e04.all b (all' b hb2)
      · have v5 : Same (Λ.vis W2 H4) (Λ.vis W2 (upd H4 Dl (.lst (vs' ++ [v4])))) := hid_grow fun b u g hb2 => ⟨g, by rw [upd_ne (show b ≠ Dl from fun z => g (.inr (.inr ⟨n, by rw [z]; exact hW2⟩)))]; exact hb2⟩
        exact ((racc.up e04.vis).app (.one r4)).up v5
    | false =>
      have S4' : StOk Λ env W2 σ H3 := S'.ev S3' e03
      exact ⟨S4', s'.trans e03.vis, fun j p o hj hp => e03.own j p o (sub j p hj) (own' j p o hj hp), fun b hb2 => e03.all b (all' b hb2), acc, vs', e03.own n Dl _ hW2 hDl, racc.up e03.vis, hb⟩
  · have ei : i = ds.length := by omega
    subst ei
    rw [List.drop_length] at hl
    refine .inl ⟨J1.stop env W2 σ H' S' s', ?_⟩
    have gsub : ∀ b, Λ.G W b → Λ.G W2 b := fun b g => by
      rcases g with z | z | ⟨j, z⟩
      · exact .inl z
      · exact .inr (.inl z)
      · exact .inr (.inr ⟨j, sub j b z⟩)
    have v6 : Same (Λ.vis W2 H') (Λ.vis W H') := hid_anti gsub
    refine k acc Dl vs' H' hl (S'.show_ hE hns hnW hn) (e1.trans ⟨s'.trans v6, own', all'⟩) (e1.free hD) hDl (racc.up fun b o hb2 => ?_)
    obtain ⟨g, hb3⟩ := hid_some.mp hb2
    exact hid_some.mpr ⟨fun z => g (.inr (.inr ⟨n, by rw [z]; exact hW2⟩)), hid_some.mpr ⟨fun z => g (gsub b z), hb3⟩⟩
/-! the weakest reading of a thing without a heap: it is one for all contexts -/
def teOf (Λ : Lx) (w : WX) (t : DE) : TE := fun σ H Q => ∃ env W q x, StOk Λ env W σ H ∧ XOk Λ w env W σ H x ∧ t env q x ∧ (∀ d v H', q d → StOk Λ env W σ H' → Ev Λ W H H' → Rep Λ.B (Λ.vis W H') d v → Q v H')
def ttOf (Λ : Lx) (w : WX) (t : DT) : TT := fun σ H Q => ∃ env W q x, StOk Λ env W σ H ∧ XOk Λ w env W σ H x ∧ t env q x ∧ (∀ b H', q b → StOk Λ env W σ H' → Ev Λ W H H' → Q b H')
def tgOf (Λ : Lx) (t : DG) (js : List Nat) : TG := fun v σ H Q => ∃ env W d q, StOk Λ env W σ H ∧ Rep Λ.B (Λ.vis W H) d v ∧ t d env q ∧ (∀ env' σ', q env' → env'.length = env.length → StOk Λ env' W σ' H → (∀ vs : List Nat, (∀ j ∈ js, j ∈ vs) → wipe σ' vs = wipe σ vs) → Q σ' H)
theorem snd_teOf : Snd Λ w (teOf Λ w t) t := fun env W σ H Q q x S hx h k => ⟨env, W, q, x, S, hx, h, k⟩
theorem snd_ttOf : SndT Λ w (ttOf Λ w tA) tA := fun env W σ H Q q x S hx h k => ⟨env, W, q, x, S, hx, h, k⟩
theorem snd_tgOf {g : DG} {js : List Nat} : SndG Λ (tgOf Λ g js) g js := fun env W σ H d v q Q S r h k => ⟨env, W, d, q, S, r, h, k⟩
theorem XE.pe (h : XE X Λ w a t) (hK : X.K = Λ.B.K) : PE X a (teOf Λ w t) := by
  obtain ⟨r, p, s⟩ := h.ex hK
  exact ⟨fun pins s' σ H Q I ⟨env, W, q, x, S, hx, hh, k⟩ => p.run pins s' σ H Q I (s env W σ H Q q x S hx hh k)⟩
theorem XTs.pts (h : XTs X Λ w es tA) (hK : X.K = Λ.B.K) : PTs X es (ttOf Λ w tA) := by
  obtain ⟨r, p, s⟩ := h.ex hK
  exact ⟨fun pins s' σ H Q I ⟨env, W, q, x, S, hx, hh, k⟩ => p.run pins s' σ H Q I (s env W σ H Q q x S hx hh k)⟩
theorem XG.pg {g : DG} {js : List Nat} (h : XG X Λ a g js) (hK : X.K = Λ.B.K) : PG X a (tgOf Λ g js) := by
  obtain ⟨r, p, s⟩ := h.ex hK
  exact ⟨fun pins s' σ H v u Q I rv ⟨env, W, d, q, S, rp, hh, k⟩ => p.run pins s' σ H v u Q I rv (s env W σ H d v q Q S rp hh k)⟩
/-- [e for x in xs if t] -/
theorem xl_lc {tg iter elt : Expr} {ifs : List Expr} {scope : Scope} {own : List (Str × Nat)} {it : DA} {g : DG} {td : DT} {u : DE} {js : List Nat} (hc : X.calm = true) (hN : X.N.Nodup) (hi : XI X Λ w tg iter it) (ok : BlkOk X.N X.env.scope scope own)
    (hg : ∀ (s : Shared) (H : Hp) (C : Addr) (cl : List (Str × Addr)) (fp : List Addr), XG (X.blk s H scope (compEnvC scope cl C X.env) fp) Λ tg g js)
    (ht : ∀ (s : Shared) (H : Hp) (C : Addr) (cl : List (Str × Addr)) (fp : List Addr), XTs (X.blk s H scope (compEnvC scope cl C X.env) fp) Λ w0 ifs td)
    (he : ∀ (s : Shared) (H : Hp) (C : Addr) (cl : List (Str × Addr)) (fp : List Addr), XE (X.blk s H scope (compEnvC scope cl C X.env) fp) Λ w0 elt u)
    (hjs : ∀ j ∈ js, j ∈ own.map (·.2) := by decide) (hs : ∀ x, foldedSetIterable iter X.env x = pure x := by intro _; rfl) : XL X Λ w (.ListComp elt [⟨tg, iter, ifs, 0⟩] scope pos) (dLc it g td u (own.map (·.2))) := ⟨fun hK => by
  obtain ⟨ri, pi, si⟩ := hi.ex hK
  exact ⟨_, pe_lc hc hN pi ok (fun s H C cl fp => (hg s H C cl fp).pg hK) (fun s H C cl fp => (ht s H C cl fp).pts hK) (fun s H C cl fp => (he s H C cl fp).pe hK) hs, snd_lc si snd_tgOf snd_ttOf snd_teOf hjs⟩⟩
/-- y = [..] -/
theorem xs_lcX {i : Nat} {y : Str} {py spos : Pos} {tg iter elt : Expr} {ifs : List Expr} {scope : Scope} {own : List (Str × Nat)} {it : DA} {g : DG} {td : DT} {u : DE} {js : List Nat} (hc : X.calm = true) (hN : X.N.Nodup) (hy : X.N[i]? = some y) (hyl : X.env.scope.names.lookup y = some .local)
    (hsw : swapsWith (.ListComp elt [⟨tg, iter, ifs, 0⟩] scope pos) (some (.Name y py)) spos.line X.env = pure true) (hi : XI X Λ w tg iter it) (ok : BlkOk X.N X.env.scope scope own)
    (hg : ∀ (s : Shared) (H : Hp) (C : Addr) (cl : List (Str × Addr)) (fp : List Addr), XG (X.blk s H scope (compEnvC scope cl C X.env) fp) Λ tg g js)
    (ht : ∀ (s : Shared) (H : Hp) (C : Addr) (cl : List (Str × Addr)) (fp : List Addr), XTs (X.blk s H scope (compEnvC scope cl C X.env) fp) Λ w0 ifs td)
    (he : ∀ (s : Shared) (H : Hp) (C : Addr) (cl : List (Str × Addr)) (fp : List Addr), XE (X.blk s H scope (compEnvC scope cl C X.env) fp) Λ w0 elt u)
    (hjs : ∀ j ∈ js, j ∈ own.map (·.2) := by decide) (hs : ∀ x, foldedSetIterable iter X.env x = pure x := by intro _; rfl) (hK : X.K = Λ.B.K) :
    ∃ r : TE, PS X (.Assign [.Name y py] (.ListComp elt [⟨tg, iter, ifs, 0⟩] scope pos) spos) (tAsg r (gName i)) ∧ SndL Λ w r (dLc it g td u (own.map (·.2))) := by
  obtain ⟨ri, pi, si⟩ := hi.ex hK
  exact ⟨_, ps_setLc hc hN hy hyl hsw pi ok (fun s H C cl fp => (hg s H C cl fp).pg hK) (fun s H C cl fp => (ht s H C cl fp).pts hK) (fun s H C cl fp => (he s H C cl fp).pe hK) hs, snd_lc si snd_tgOf snd_ttOf snd_teOf hjs⟩
theorem xs_lcO {i : Nat} {y : Str} {py spos : Pos} {tg iter elt : Expr} {ifs : List Expr} {scope : Scope} {own : List (Str × Nat)} {it : DA} {g : DG} {td : DT} {u : DE} {js : List Nat} (hc : X.calm = true) (hN : X.N.Nodup) (hy : X.N[i]? = some y) (hyl : X.env.scope.names.lookup y = some .local)
    (hsw : swapsWith (.ListComp elt [⟨tg, iter, ifs, 0⟩] scope pos) (some (.Name y py)) spos.line X.env = pure true) (hi : XI X Λ w tg iter it) (ok : BlkOk X.N X.env.scope scope own)
    (hg : ∀ (s : Shared) (H : Hp) (C : Addr) (cl : List (Str × Addr)) (fp : List Addr), XG (X.blk s H scope (compEnvC scope cl C X.env) fp) Λ tg g js)
    (ht : ∀ (s : Shared) (H : Hp) (C : Addr) (cl : List (Str × Addr)) (fp : List Addr), XTs (X.blk s H scope (compEnvC scope cl C X.env) fp) Λ w0 ifs td)
    (he : ∀ (s : Shared) (H : Hp) (C : Addr) (cl : List (Str × Addr)) (fp : List Addr), XE (X.blk s H scope (compEnvC scope cl C X.env) fp) Λ w0 elt u)
    (hjs : ∀ j ∈ js, j ∈ own.map (·.2) := by decide) (hs : ∀ x, foldedSetIterable iter X.env x = pure x := by intro _; rfl) :
    XS X Λ w (.Assign [.Name y py] (.ListComp elt [⟨tg, iter, ifs, 0⟩] scope pos) spos) (dSetO i (dLc it g td u (own.map (·.2)))) := ⟨fun hK => by
  obtain ⟨r, p, s⟩ := xs_lcX (w := w) hc hN hy hyl hsw hi ok hg ht he hjs hs hK
  exact ⟨_, p, snd_setO s⟩⟩
theorem xs_lcV {i : Nat} {y : Str} {py spos : Pos} {tg iter elt : Expr} {ifs : List Expr} {scope : Scope} {own : List (Str × Nat)} {it : DA} {g : DG} {td : DT} {u : DE} {js : List Nat} (hc : X.calm = true) (hN : X.N.Nodup) (hy : X.N[i]? = some y) (hyl : X.env.scope.names.lookup y = some .local)
    (hsw : swapsWith (.ListComp elt [⟨tg, iter, ifs, 0⟩] scope pos) (some (.Name y py)) spos.line X.env = pure true) (hi : XI X Λ w tg iter it) (ok : BlkOk X.N X.env.scope scope own)
    (hg : ∀ (s : Shared) (H : Hp) (C : Addr) (cl : List (Str × Addr)) (fp : List Addr), XG (X.blk s H scope (compEnvC scope cl C X.env) fp) Λ tg g js)
    (ht : ∀ (s : Shared) (H : Hp) (C : Addr) (cl : List (Str × Addr)) (fp : List Addr), XTs (X.blk s H scope (compEnvC scope cl C X.env) fp) Λ w0 ifs td)
    (he : ∀ (s : Shared) (H : Hp) (C : Addr) (cl : List (Str × Addr)) (fp : List Addr), XE (X.blk s H scope (compEnvC scope cl C X.env) fp) Λ w0 elt u)
    (hjs : ∀ j ∈ js, j ∈ own.map (·.2) := by decide) (hs : ∀ x, foldedSetIterable iter X.env x = pure x := by intro _; rfl) :
    XS X Λ w (.Assign [.Name y py] (.ListComp elt [⟨tg, iter, ifs, 0⟩] scope pos) spos) (dSet i (dL (dLc it g td u (own.map (·.2))))) := ⟨fun hK => by
  obtain ⟨r, p, s⟩ := xs_lcX (w := w) hc hN hy hyl hsw hi ok hg ht he hjs hs hK
  exact ⟨_, p, snd_asg s.snd snd_gN⟩⟩
end
end Eb

/-! ## own layer: what is walked; operators, without a heap -/
namespace Eb
open PySem PySem.Spec PyProof.Rows L2
section
variable {X : Cx} {Λ : Lx} {w : WX} {a b c e tg : Expr} {es : List Expr} {ta tb tc t : DE} {tA tB : DT} {pos : Pos}
theorem same_get {W W' : Ow} {H H' : Hp} (s : Same (Λ.vis W H) (Λ.vis W' H')) {p : Addr} {o : HO} (h : Λ.vis W H p = some o) : H' p = some o := hid_le _ _ (s _ _ h)
def sqItems : D → (List D → Prop) → Prop
  | .lst ds, q => q ds
  | _, _ => False
def dItL (t : DE) : DA := fun env q x => t env (fun d => match d with
  | .lst ds => q ds
  | _ => False) x
def dItT (t : DE) : DA := fun env q x => t env (fun d => match d with
  | .tup ds => q ds
  | _ => False) x
theorem it_list {W : Ow} {H : Hp} {p : Addr} {vs : List V} {ds : List D} (h : Λ.vis W H p = some (.lst vs)) (r : RepL Λ.B (Λ.vis W H) ds vs) : ItOk Λ W H (Itl Λ.B.K p) ds where
  go := fun i env' W' σ' H' hi S s => by
    have h' : H' p = some (.lst vs) := hid_le _ _ (s _ _ h)
    obtain ⟨v, hv, _⟩ := r.get (List.getElem?_eq_getElem hi)
    exact ⟨vs, v, sqL_of h', hv⟩
  stop := fun env' W' σ' H' S s => ⟨vs, sqL_of (hid_le _ _ (s _ _ h)), by rw [r.len]; exact Nat.le_refl _⟩
  yld := fun i x env' W' σ' H' H'' hi S s y => by
    obtain ⟨rfl, y⟩ := y
    have h' : H'' p = some (.lst vs) := hid_le _ _ (s _ _ h)
    obtain ⟨d, hd, rd⟩ := r.geti (y vs (sqL_of h'))
    exact ⟨Same.refl _, d, hd, rd.up s⟩
theorem it_tup {W : Ow} {H : Hp} {p : Addr} {vs : List V} {ds : List D} (h : SqT Λ.B.K (Λ.vis W H) p vs) (r : RepL Λ.B (Λ.vis W H) ds vs) : ItOk Λ W H (Itt Λ.B.K p) ds where
  go := fun i env' W' σ' H' hi S s => by
    obtain ⟨v, hv, _⟩ := r.get (List.getElem?_eq_getElem hi)
    exact ⟨vs, v, Same_seqT hid_le (Same_seqT s h), hv⟩
  stop := fun env' W' σ' H' S s => ⟨vs, Same_seqT hid_le (Same_seqT s h), by rw [r.len]; exact Nat.le_refl _⟩
  yld := fun i x env' W' σ' H' H'' hi S s y => by
    obtain ⟨rfl, y⟩ := y
    obtain ⟨d, hd, rd⟩ := r.geti (y vs (Same_seqT hid_le (Same_seqT s h)))
    exact ⟨Same.refl _, d, hd, rd.up s⟩
theorem xi_list (h : XE X Λ w a t) : XI X Λ w tg a (dItL t) := ⟨fun hK => by
  obtain ⟨r, p, s⟩ := h.ex hK
  refine ⟨_, pi_list p, fun env W σ H R q x S hx hh k => s env W σ H _ _ x S hx hh fun d v H1 h1 S1 e1 r1 => ?_⟩
  cases d with
  | lst ds =>
    obtain ⟨p, vs, rfl, h2, r2⟩ := r1
    rw [hK]
    exact ⟨p, rfl, ⟨vs, sqL_of (hid_le _ _ h2)⟩, k ds _ H1 h1 S1 e1 (it_list h2 r2)⟩
  | _ => exact h1.elim⟩
theorem xi_tup (h : XE X Λ w a t) : XI X Λ w tg a (dItT t) := ⟨fun hK => by
  obtain ⟨r, p, s⟩ := h.ex hK
  refine ⟨_, pi_tup p, fun env W σ H R q x S hx hh k => s env W σ H _ _ x S hx hh fun d v H1 h1 S1 e1 r1 => ?_⟩
  cases d with
  | tup ds =>
    obtain ⟨p, vs, rfl, h2, r2⟩ := r1
    rw [hK]
    exact ⟨p, rfl, ⟨vs, Same_seqT hid_le h2⟩, k ds _ H1 h1 S1 e1 (it_tup h2 r2)⟩
  | _ => exact h1.elim⟩
/-! range -/
def rgD (lo : Int) (n : Nat) : List D := (List.range n).map fun (i : Nat) => .int (lo + (i : Int))
theorem rgD_len (lo : Int) (n : Nat) : (rgD lo n).length = n := by simp [rgD]
theorem it_range {W : Ow} {H : Hp} {lo : Int} {n : Nat} : ItOk Λ W H (Itr lo n) (rgD lo n) where
  go := fun i env' W' σ' H' hi S s => by rw [rgD_len] at hi; exact hi
  stop := fun env' W' σ' H' S s => by rw [rgD_len]; exact Nat.le_refl _
  yld := fun i x env' W' σ' H' H'' hi S s y => by
    obtain ⟨rfl, rfl⟩ := y
    rw [rgD_len] at hi
    exact ⟨Same.refl _, .int (lo + i), by simp [rgD, hi], rfl⟩
def dRg1 (u : DA) : DA := fun env q x => u env (fun ds => match ds with
  | [.int j] => (-(2 ^ 62) ≤ j ∧ j < 2 ^ 62) ∧ q (rgD 0 j.toNat)
  | _ => False) x
def dRg2 (u : DA) : DA := fun env q x => u env (fun ds => match ds with
  | [.int i, .int j] => (-(2 ^ 62) ≤ i ∧ i < 2 ^ 62 ∧ -(2 ^ 62) ≤ j ∧ j < 2 ^ 62) ∧ q (rgD i (j - i).toNat)
  | _ => False) x
theorem xi_range1 {u : DA} {p : Pos} (hg : Gl X "range") (hm : X.mg "range" = none) (ha : XA X Λ w [a] u) (hs : starEach [a] X.env = [(false, eval a X.env)] := by rfl) : XI X Λ w tg (.Call (.Name "range" p) [a] [] pos) (dRg1 u) := ⟨fun hK => by
  obtain ⟨r, p, s⟩ := ha.ex hK
  refine ⟨_, pi_range1 hg hm p hs, fun env W σ H R q x S hx hh k => s env W σ H _ _ x S hx hh fun ds vs H1 h1 S1 e1 r1 => ?_⟩
  split at h1
  case h_2 => exact h1.elim
  rename_i j
  obtain ⟨⟨b1, b2⟩, h1⟩ := h1
  obtain ⟨v, r, rfl, rfl, r2⟩ := r1
  cases r2
  exact ⟨j, rfl, b1, b2, k _ _ H1 h1 S1 e1 it_range⟩⟩
theorem xi_range2 {u : DA} {p : Pos} (hg : Gl X "range") (hm : X.mg "range" = none) (ha : XA X Λ w [a, b] u) (hs : starEach [a, b] X.env = [(false, eval a X.env), (false, eval b X.env)] := by rfl) (hs2 : starEach [b] X.env = [(false, eval b X.env)] := by rfl) : XI X Λ w tg (.Call (.Name "range" p) [a, b] [] pos) (dRg2 u) := ⟨fun hK => by
  obtain ⟨r, p, s⟩ := ha.ex hK
  refine ⟨_, pi_range2 hg hm p hs hs2, fun env W σ H R q x S hx hh k => s env W σ H _ _ x S hx hh fun ds vs H1 h1 S1 e1 r1 => ?_⟩
  split at h1
  case h_2 => exact h1.elim
  rename_i i j
  obtain ⟨b1, h1⟩ := h1
  obtain ⟨v, r, rfl, rfl, v2, r3, rfl, rfl, r2⟩ := r1
  cases r2
  exact ⟨i, j, rfl, b1, k _ _ H1 h1 S1 e1 it_range⟩⟩
def rgC (lo c : Int) (n : Nat) : List D := (List.range n).map fun (i : Nat) => .int (lo + ((i : Nat) : Int) * c)
theorem it_rangeC {W : Ow} {H : Hp} {lo c : Int} {n : Nat} : ItOk Λ W H (Itc lo c n) (rgC lo c n) where
  go := fun i env' W' σ' H' hi S s => by simp [rgC] at hi; exact hi
  stop := fun env' W' σ' H' S s => by simp [rgC]; exact Nat.le_refl _
  yld := fun i x env' W' σ' H' H'' hi S s y => by
    obtain ⟨rfl, rfl⟩ := y
    simp [rgC] at hi
    exact ⟨Same.refl _, .int (lo + (i : Nat) * c), by simp [rgC, hi], rfl⟩
def dRg3 (u : DA) : DA := fun env q x => u env (fun ds => match ds with
  | [.int i, .int j, .int c] => ∃ n : Nat, RgC i j c n ∧ q (rgC i c n)
  | _ => False) x
theorem xi_range3 {u : DA} {p : Pos} (hg : Gl X "range") (hm : X.mg "range" = none) (ha : XA X Λ w [a, b, c] u) (hs : starEach [a, b, c] X.env = (false, eval a X.env) :: starEach [b, c] X.env := by rfl) (hpl : (backTo pos (starEach [b, c] X.env)).any (·.1) = false := by rfl) :
    XI X Λ w tg (.Call (.Name "range" p) [a, b, c] [] pos) (dRg3 u) := ⟨fun hK => by
  obtain ⟨r, p, s⟩ := ha.ex hK
  refine ⟨_, pi_range3 hg hm p hs hpl, fun env W σ H R q x S hx hh k => s env W σ H _ _ x S hx hh fun ds vs H1 h1 S1 e1 r1 => ?_⟩
  split at h1
  case h_2 => exact h1.elim
  rename_i i j c
  obtain ⟨n, b1, h1⟩ := h1
  obtain ⟨v, r, rfl, rfl, v2, r3, rfl, rfl, v4, r5, rfl, rfl, r2⟩ := r1
  cases r2
  exact ⟨i, j, c, n, rfl, b1, k _ _ H1 h1 S1 e1 it_rangeC⟩⟩
/-! enumerate, zip -/
def enD (ds : List D) : List D := ds.zipIdx.map fun p => .tup [.int (p.2 : Int), p.1]
theorem enD_len (ds : List D) : (enD ds).length = ds.length := by simp [enD]
theorem enD_get {ds : List D} {i : Nat} {d : D} (h : ds[i]? = some d) : (enD ds)[i]? = some (.tup [.int (i : Int), d]) := by
  simp [enD, h]
theorem new_tup {env : List Sl} {W : Ow} {σ : L2.St} {H : Hp} {T : Addr} {vs : List V} {ds : List D} (S : StOk Λ env W σ H) (hT : H T = none) (r : RepL Λ.B (Λ.vis W H) ds vs) : Rep Λ.B (Λ.vis W (upd H T (.tup vs))) (.tup ds) (.ref T) :=
  ⟨T, vs, rfl, sqT_of (vis_new S hT), r.up (vis_same (same_new hT))⟩
theorem it_enum {W : Ow} {H : Hp} {p : Addr} {vs : List V} {ds : List D} (h : Λ.vis W H p = some (.lst vs)) (r : RepL Λ.B (Λ.vis W H) ds vs) : ItOk Λ W H (Ite Λ.B.K p) (enD ds) where
  go := fun i env' W' σ' H' hi S s => by
    rw [enD_len] at hi
    have h' : H' p = some (.lst vs) := hid_le _ _ (s _ _ h)
    obtain ⟨v, hv, _⟩ := r.get (List.getElem?_eq_getElem hi)
    exact ⟨vs, v, sqL_of h', hv⟩
  stop := fun env' W' σ' H' S s => ⟨vs, sqL_of (hid_le _ _ (s _ _ h)), by rw [r.len, enD_len]; exact Nat.le_refl _⟩
  yld := fun i x env' W' σ' H' H'' hi S s y => by
    obtain ⟨T, z, rfl, hT, rfl, y⟩ := y
    have h' : H' p = some (.lst vs) := hid_le _ _ (s _ _ h)
    obtain ⟨d, hd, rd⟩ := r.geti (y vs (sqL_of h'))
    exact ⟨same_new hT, _, enD_get hd, new_tup S hT ⟨_, _, rfl, rfl, _, _, rfl, rd.up s, rfl⟩⟩
def dEn (f : D → (List D → Prop) → Prop) (t : DE) : DA := fun env q x => t env (fun d => f d fun ds => q (enD ds)) x
def isL : D → (List D → Prop) → Prop
  | .lst ds, q => q ds
  | _, _ => False
def isT : D → (List D → Prop) → Prop
  | .tup ds, q => q ds
  | _, _ => False
theorem xi_enumL {p tpos : Pos} {elts : List Expr} {kk : Nat} (hg : Gl X "enumerate") (hm : X.mg "enumerate" = none) (ha : XE X Λ w a t) (hs : starEach [a] X.env = [(false, eval a X.env)] := by rfl) :
    XI X Λ w (.Tuple elts kk tpos) (.Call (.Name "enumerate" p) [a] [] pos) (dEn isL t) := ⟨fun hK => by
  obtain ⟨r, p, s⟩ := ha.ex hK
  refine ⟨_, pi_enum hg hm (pa_cons p pa_nil hs) hs, fun env W σ H R q x S hx hh k => s env W σ H _ _ x S hx hh fun d v H1 h1 S1 e1 r1 => ?_⟩
  cases d with
  | lst ds =>
    obtain ⟨p, vs, rfl, h2, r2⟩ := r1
    rw [hK]
    exact ⟨p, vs, rfl, sqL_of (hid_le _ _ h2), k _ _ H1 h1 S1 e1 (it_enum h2 r2)⟩
  | _ => exact h1.elim⟩
def zpD (xs ys : List D) : List D := (xs.zip ys).map fun p => .tup [p.1, p.2]
theorem it_zip {W : Ow} {H : Hp} {p p' : Addr} {vs vs' : List V} {ds ds' : List D} (h : Λ.vis W H p = some (.lst vs)) (r : RepL Λ.B (Λ.vis W H) ds vs) (h' : Λ.vis W H p' = some (.lst vs')) (r' : RepL Λ.B (Λ.vis W H) ds' vs') : ItOk Λ W H (Itz Λ.B.K p p') (zpD ds ds') where
  go := fun i env' W' σ' H' hi S s => by
    simp [zpD] at hi
    have hi1 : i < ds.length := by omega
    have hi2 : i < ds'.length := by omega
    obtain ⟨v, hv, _⟩ := r.get (List.getElem?_eq_getElem hi1)
    obtain ⟨v', hv', _⟩ := r'.get (List.getElem?_eq_getElem hi2)
    exact ⟨vs, vs', v, v', sqL_of (hid_le _ _ (s _ _ h)), sqL_of (hid_le _ _ (s _ _ h')), hv, hv'⟩
  stop := fun env' W' σ' H' S s => ⟨vs, vs', sqL_of (hid_le _ _ (s _ _ h)), sqL_of (hid_le _ _ (s _ _ h')), by
    rw [r.len, r'.len]
    simp [zpD]
    omega⟩
  yld := fun i x env' W' σ' H' H'' hi S s y => by
    obtain ⟨T, z, z', rfl, hT, rfl, y, y'⟩ := y
    obtain ⟨d, hd, rd⟩ := r.geti (y vs (sqL_of (hid_le _ _ (s _ _ h))))
    obtain ⟨d', hd', rd'⟩ := r'.geti (y' vs' (sqL_of (hid_le _ _ (s _ _ h'))))
    exact ⟨same_new hT, .tup [d, d'], by
      have hz : (ds.zip ds')[i]? = some (d, d') := List.getElem?_zip_eq_some.mpr ⟨hd, hd'⟩
      simp only [zpD, List.getElem?_map, hz, Option.map_some], new_tup S hT ⟨_, _, rfl, rd.up s, _, _, rfl, rd'.up s, rfl⟩⟩
def dZp (ta tb : DE) : DA := fun env q x => ta env (fun d => tb env (fun d' => match d, d' with
  | .lst ds, .lst ds' => q (zpD ds ds')
  | _, _ => False) x) x
theorem xi_zip {p tpos : Pos} {elts : List Expr} {kk : Nat} (hg : Gl X "zip") (hm : X.mg "zip" = none) (ha : XE X Λ w a ta) (hb : XE X Λ w b tb)
    (hs : starEach [a, b] X.env = (false, eval a X.env) :: starEach [b] X.env := by rfl) (hs2 : starEach [b] X.env = (false, eval b X.env) :: starEach [] X.env := by rfl) (hpl : (backTo pos (starEach [b] X.env)).any (·.1) = false := by rfl) :
    XI X Λ w (.Tuple elts kk tpos) (.Call (.Name "zip" p) [a, b] [] pos) (dZp ta tb) := ⟨fun hK => by
  obtain ⟨r, p, s⟩ := ha.ex hK
  obtain ⟨r', p', s'⟩ := hb.ex hK
  refine ⟨_, pi_zip hg hm (pa_cons p (pa_cons p' pa_nil hs2) hs) hs hpl, fun env W σ H R q x S hx hh k => s env W σ H _ _ x S hx hh fun d v H1 h1 S1 e1 r1 => s' env W σ H1 _ _ x S1 (hx.on e1) h1 fun d' v' H2 h2 S2 e2 r2 => ?_⟩
  have r1 := r1.up e2.vis
  cases d with
  | lst ds =>
    cases d' with
    | lst ds' =>
      obtain ⟨p, vs, rfl, h3, r3⟩ := r1
      obtain ⟨p', vs', rfl, h4, r4⟩ := r2
      rw [hK]
      exact ⟨p, p', vs, vs', rfl, sqL_of (hid_le _ _ h3), sqL_of (hid_le _ _ h4), k _ _ H2 h2 S2 (e1.trans e2) (it_zip h3 r3 h4 r4)⟩
    | _ => exact h2.elim
  | _ => exact h2.elim⟩
/-! a text, sign by sign -/
def chD (x : Str) : List D := x.cps.toList.map fun c => .str ⟨#[c]⟩
theorem it_str {W : Ow} {H : Hp} {y : Str} : ItOk Λ W H (Its y) (chD y) where
  go := fun i env' W' σ' H' hi S s => by simp [chD] at hi; exact hi
  stop := fun env' W' σ' H' S s => by simp [chD]; exact Nat.le_refl _
  yld := fun i x env' W' σ' H' H'' hi S s z => by
    obtain ⟨rfl, c, hc, rfl⟩ := z
    refine ⟨Same.refl _, .str ⟨#[c]⟩, ?_, rfl⟩
    simp [chD, hc]
def dItS (t : DE) : DA := fun env q x => t env (fun d => match d with
  | .str y => q (chD y)
  | _ => False) x
theorem xi_str (h : XE X Λ w a t) : XI X Λ w tg a (dItS t) := ⟨fun hK => by
  obtain ⟨r, p, s⟩ := h.ex hK
  refine ⟨_, pi_str p, fun env W σ H R q x S hx hh k => s env W σ H _ _ x S hx hh fun d v H1 h1 S1 e1 r1 => ?_⟩
  cases d with
  | str y => exact ⟨y, r1, k _ _ H1 h1 S1 e1 it_str⟩
  | _ => exact h1.elim⟩
end
end Eb

/-! ## own layer: operators, subscripts, built-in calls on values without a heap -/
namespace Eb
open PySem PySem.Spec PyProof.Rows L2
section
variable {X : Cx} {Λ : Lx} {w : WX} {a b c e tg : Expr} {es : List Expr} {ta tb tc t : DE} {tA tB : DT} {pos : Pos}
theorem opE {f : Value → Value → Sem Value} {r r' : R2} (h : OpR X f r) (h' : OpR X f r') : OpR X f (fun x y H Q => r x y H Q ∨ r' x y H Q) := fun pins s σ H x y v u Q I rx ry hh =>
  hh.elim (h pins s σ H x y v u Q I rx ry) (h' pins s σ H x y v u Q I rx ry)
theorem callE {f : Value} {r r' : List V → Hp → VK → Prop} (h : CallR X f r) (h' : CallR X f r') : CallR X f (fun x H Q => r x H Q ∨ r' x H Q) := fun pins s σ H x us Q I rx hh =>
  hh.elim (h pins s σ H x us Q I rx) (h' pins s σ H x us Q I rx)
theorem slE {r r' : V → Option Int → Option Int → Hp → VK → Prop} (h : SlR X r) (h' : SlR X r') : SlR X (fun x l u H Q => r x l u H Q ∨ r' x l u H Q) := fun pins s σ H x v vl vu lo hi sl Q I rx hs pl pu hh =>
  hh.elim (h pins s σ H x v vl vu lo hi sl Q I rx hs pl pu) (h' pins s σ H x v vl vu lo hi sl Q I rx hs pl pu)
theorem rep_lst {W : Ow} {H : Hp} {ds : List D} {v : V} (h : Rep Λ.B (Λ.vis W H) (.lst ds) v) : ∃ p vs, v = .ref p ∧ H p = some (.lst vs) ∧ RepL Λ.B (Λ.vis W H) ds vs := by
  obtain ⟨p, vs, e, h1, h2⟩ := h
  exact ⟨p, vs, e, hid_le _ _ h1, h2⟩
theorem rep_tup {W : Ow} {H : Hp} {ds : List D} {v : V} (h : Rep Λ.B (Λ.vis W H) (.tup ds) v) : ∃ p vs, v = .ref p ∧ SqT Λ.B.K H p vs ∧ RepL Λ.B (Λ.vis W H) ds vs := by
  obtain ⟨p, vs, e, h1, h2⟩ := h
  exact ⟨p, vs, e, Same_seqT hid_le h1, h2⟩
/-- a new list, a new tuple is laid -/
theorem fin_lst {env : List Sl} {W : Ow} {σ : L2.St} {H : Hp} {Q : VK} {q : D → Prop} {ds : List D} {vs : List V} (S : StOk Λ env W σ H) (r : RepL Λ.B (Λ.vis W H) ds vs) (h : q (.lst ds)) (k : ∀ d v H', q d → StOk Λ env W σ H' → Ev Λ W H H' → Rep Λ.B (Λ.vis W H') d v → Q v H') :
    ∀ p, H p = none → Q (.ref p) (upd H p (.lst vs)) := fun p hp => by
  have s := same_new (o := .lst vs) hp
  exact k _ _ _ h (S.grow s) (.of s) ⟨p, vs, rfl, vis_new S hp, r.up (vis_same s)⟩
theorem fin_tup {env : List Sl} {W : Ow} {σ : L2.St} {H : Hp} {Q : VK} {q : D → Prop} {ds : List D} {vs : List V} (S : StOk Λ env W σ H) (r : RepL Λ.B (Λ.vis W H) ds vs) (h : q (.tup ds)) (k : ∀ d v H', q d → StOk Λ env W σ H' → Ev Λ W H H' → Rep Λ.B (Λ.vis W H') d v → Q v H') :
    ∀ p, H p = none → Q (.ref p) (upd H p (.tup vs)) := fun p hp => by
  have s := same_new (o := .tup vs) hp
  exact k _ _ _ h (S.grow s) (.of s) ⟨p, vs, rfl, sqT_of (vis_new S hp), r.up (vis_same s)⟩
/-! ### + - * // % ** -/
def addD : D → D → DK
  | .int i, .int j, q, _ => q (.int (i + j))
  | .int i, .bl j, q, _ => q (.int (i + b2i j))
  | .str i, .str j, q, _ => i.length + j.length ≤ 100000 ∧ q (.str (i ++ j))
  | .lst i, .lst j, q, _ => i.length + j.length ≤ 100000 ∧ q (.lst (i ++ j))
  | .tup i, .tup j, q, _ => i.length + j.length ≤ 100000 ∧ q (.tup (i ++ j))
  | _, _, _, _ => False
def rAddA (K : PySem.W.Frag) : R2 := fun x y H Q => rI0 (fun i j => .int (i + j)) x y H Q ∨ (∃ i k, x = .int i ∧ y = .bl k ∧ Q (.int (i + b2i k)) H) ∨ (∃ i j, x = .str i ∧ y = .str j ∧ i.length + j.length ≤ sizeLine ∧ Q (.str (i ++ j)) H) ∨ rCat x y H Q ∨ rCatA K x y H Q
theorem snd_add : SndR Λ w (rAddA Λ.B.K) addD := fun env W σ H d e v u Q q x S hx r1 r2 h k => by
  cases d <;> cases e <;> first | exact h.elim | skip
  · cases r1; cases r2; exact .inr (.inl ⟨_, _, rfl, rfl, k _ _ H h S .refl rfl⟩)
  · cases r1; cases r2; exact .inl ⟨_, _, rfl, rfl, k _ _ H h S .refl rfl⟩
  · cases r1; cases r2; exact .inr (.inr (.inl ⟨_, _, rfl, rfl, sz h.1, k _ _ H h.2 S .refl rfl⟩))
  · obtain ⟨p, vs, rfl, h1, r1⟩ := rep_lst r1
    obtain ⟨p', vs', rfl, h2, r2⟩ := rep_lst r2
    exact .inr (.inr (.inr (.inl ⟨p, p', vs, vs', rfl, rfl, h1, h2, by rw [r1.len, r2.len]; exact sz h.1, fin_lst S (r1.app r2) h.2 k⟩)))
  · obtain ⟨p, vs, rfl, h1, r1'⟩ := rep_tup r1
    obtain ⟨p', vs', rfl, h2, r2'⟩ := rep_tup r2
    refine .inr (.inr (.inr (.inr ⟨p, p', vs, vs', rfl, rfl, h1, h2, by rw [r1'.len, r2'.len]; exact sz h.1, fun z => ?_, fun z z2 => ?_, fun z z2 => fin_tup S (r1'.app r2') h.2 k⟩)))
    · rename_i xs ys
      have e0 : xs = [] := by
        have := r1'.len
        rw [z] at this
        exact List.length_eq_zero_iff.mp this.symm
      have h2 := h.2
      rw [e0, List.nil_append] at h2
      exact k _ _ H h2 S .refl r2
    · rename_i xs ys
      have e0 : ys = [] := by
        have := r2'.len
        rw [z2] at this
        exact List.length_eq_zero_iff.mp this.symm
      have h2 := h.2
      rw [e0, List.append_nil] at h2
      exact k _ _ H h2 S .refl r1
theorem op_addA : OpR X (binaryOp .Add) (rAddA X.K) := opE op_add (opE op_add_ib (opE op_add_str (opE op_cat op_catA)))
theorem xe_add (ha : XE X Λ w a ta) (hb : XE X Λ w b tb) : XE X Λ w (.BinOp a .Add b pos) (dOp addD ta tb) := xe_op (fun hK => hK ▸ op_addA) snd_add ha hb
def intD (C : Int → Int → Prop) (g : Int → Int → D) : D → D → DK := fun d e q _ => match d, e with
  | .int i, .int j => C i j ∧ q (g i j)
  | _, _ => False
theorem snd_int {C : Int → Int → Prop} {g : Int → Int → V} {g' : Int → Int → D} (hg : ∀ i j H, Rep Λ.B H (g' i j) (g i j)) : SndR Λ w (rI C g) (intD C g') := fun env W σ H d e v u Q q x S hx r1 r2 h k => by
  cases d <;> cases e <;> first | exact h.elim | skip
  cases r1; cases r2
  exact ⟨_, _, rfl, rfl, h.1, k _ _ H h.2 S .refl (hg _ _ _)⟩
def intD0 (g : Int → Int → D) : D → D → DK := fun d e q _ => match d, e with
  | .int i, .int j => q (g i j)
  | _, _ => False
theorem snd_int0 {g : Int → Int → V} {g' : Int → Int → D} (hg : ∀ i j H, Rep Λ.B H (g' i j) (g i j)) : SndR Λ w (rI0 g) (intD0 g') := fun env W σ H d e v u Q q x S hx r1 r2 h k => by
  cases d <;> cases e <;> first | exact h.elim | skip
  cases r1; cases r2
  exact ⟨_, _, rfl, rfl, k _ _ H h S .refl (hg _ _ _)⟩
def subD : D → D → DK := intD0 fun i j => .int (i - j)
def fdivD : D → D → DK := intD CDivX fun i j => .int (i / j)
def modD : D → D → DK := intD (fun _ j => 0 < j) fun i j => .int (i % j)
def powD : D → D → DK := intD CPowX fun i j => .int (i ^ j.toNat)
theorem xe_sub (ha : XE X Λ w a ta) (hb : XE X Λ w b tb) : XE X Λ w (.BinOp a .Sub b pos) (dOp subD ta tb) := xe_op (fun _ => op_sub) (snd_int0 fun _ _ _ => rfl) ha hb
theorem xe_fdiv (ha : XE X Λ w a ta) (hb : XE X Λ w b tb) : XE X Λ w (.BinOp a .FloorDiv b pos) (dOp fdivD ta tb) := xe_op (fun _ => op_fdivX) (snd_int fun _ _ _ => rfl) ha hb
theorem xe_mod (ha : XE X Λ w a ta) (hb : XE X Λ w b tb) : XE X Λ w (.BinOp a .Mod b pos) (dOp modD ta tb) := xe_op (fun _ => op_mod) (snd_int fun _ _ _ => rfl) ha hb
theorem xe_pow (ha : XE X Λ w a ta) (hb : XE X Λ w b tb) : XE X Λ w (.BinOp a .Pow b pos) (dOp powD ta tb) := xe_op (fun _ => op_powX) (snd_int fun _ _ _ => rfl) ha hb
def mulD : D → D → DK
  | .int i, .int j, q, _ => CMulW i j ∧ q (.int (i * j))
  | .lst xs, .int k, q, _ => (-(2 ^ 63) ≤ k ∧ k < 2 ^ 63 ∧ xs.length * k.toNat ≤ 100000) ∧ q (.lst (List.replicate k.toNat xs).flatten)
  | _, _, _, _ => False
theorem snd_mul : SndR Λ w (fun x y H Q => rI CMulW (fun i j => .int (i * j)) x y H Q ∨ rRep x y H Q) mulD := fun env W σ H d e v u Q q x S hx r1 r2 h k => by
  cases d <;> cases e <;> first | exact h.elim | skip
  · cases r1; cases r2; exact .inl ⟨_, _, rfl, rfl, h.1, k _ _ H h.2 S .refl rfl⟩
  · obtain ⟨p, vs, rfl, h1, r1⟩ := rep_lst r1
    cases r2
    exact .inr ⟨p, _, vs, rfl, rfl, h1, h.1.1, h.1.2.1, by rw [r1.len]; exact sz h.1.2.2, fin_lst S (r1.rep _) h.2 k⟩
theorem xe_mul (ha : XE X Λ w a ta) (hb : XE X Λ w b tb) : XE X Λ w (.BinOp a .Mult b pos) (dOp mulD ta tb) := xe_op (fun _ => opE op_mulW op_rep) snd_mul ha hb
def negD : D → DK := fun d q _ => match d with
  | .int i => q (.int (-i))
  | _ => False
theorem xe_neg (ha : XE X Λ w a ta) : XE X Λ w (.UnaryOp .USub a pos) (dUn negD ta) := xe_un (fun _ => un_neg) (fun env W σ H d v Q q x S hx r h k => by
  cases d <;> first | exact h.elim | skip
  cases r
  exact ⟨_, rfl, k _ _ H h S .refl rfl⟩) ha
/-! ### comparisons -/
def ltD : D → D → DK := intD0 fun i j => .bl (decide (i < j))
def leD : D → D → DK := intD0 fun i j => .bl (decide (i ≤ j))
def gtD : D → D → DK := intD0 fun i j => .bl (decide (i > j))
def geD : D → D → DK := intD0 fun i j => .bl (decide (i ≥ j))
theorem snd_lt : SndR Λ w (rI0 fun i j => .bl (decide (i < j))) ltD := snd_int0 fun _ _ _ => rfl
theorem snd_le : SndR Λ w (rI0 fun i j => .bl (decide (i ≤ j))) leD := snd_int0 fun _ _ _ => rfl
theorem snd_gt : SndR Λ w (rI0 fun i j => .bl (decide (i > j))) gtD := snd_int0 fun _ _ _ => rfl
theorem snd_ge : SndR Λ w (rI0 fun i j => .bl (decide (i ≥ j))) geD := snd_int0 fun _ _ _ => rfl
/-! == of data -/
mutual
def D.py : D → Option PyData
  | .non => some .none
  | .bl b => some (.bool b)
  | .int i => some (.int i)
  | .str x => some (.str x)
  | .lst ds => match D.pys ds with
    | some xs => some (.list xs)
    | none => none
  | .tup ds => match D.pys ds with
    | some xs => some (.tuple xs)
    | none => none
  | _ => none
def D.pys : List D → Option (List PyData)
  | [] => some []
  | d :: ds => match D.py d, D.pys ds with
    | some x, some xs => some (x :: xs)
    | _, _ => none
end
mutual
theorem Rep.dp {B : Tb} {H : Hp} : ∀ (d : D) (v : V) (x : PyData), Rep B H d v → d.py = some x → Dp B.K H v x
  | .non, _, _, r, e => by cases r; cases e; exact .non
  | .bl _, _, _, r, e => by cases r; cases e; exact .bl _
  | .int _, _, _, r, e => by cases r; cases e; exact .int _
  | .str _, _, _, r, e => by cases r; cases e; exact .str _
  | .lst ds, _, x, ⟨a, vs, ev, h, r⟩, e => by
    subst ev
    unfold D.py at e
    split at e
    · rename_i xs hx
      cases e
      exact .lst (sqL_of h) (RepL.dp ds vs xs r hx)
    · cases e
  | .tup ds, _, x, ⟨a, vs, ev, h, r⟩, e => by
    subst ev
    unfold D.py at e
    split at e
    · rename_i xs hx
      cases e
      exact .tup h (RepL.dp ds vs xs r hx)
    · cases e
  | .ty _, _, _, _, e => by simp [D.py] at e
  | .cl _, _, _, _, e => by simp [D.py] at e
  | .obj _ _, _, _, _, e => by simp [D.py] at e
  | .dic _ _, _, _, _, e => by simp [D.py] at e
theorem RepL.dp {B : Tb} {H : Hp} : ∀ (ds : List D) (vs : List V) (xs : List PyData), RepL B H ds vs → D.pys ds = some xs → DpAll B.K H vs xs
  | [], _, _, r, e => by
    cases (show _ = [] from r)
    simp [D.pys] at e
    subst e
    exact .nil
  | d :: ds, _, xs, ⟨v, r, ev, h1, h2⟩, e => by
    subst ev
    unfold D.pys at e
    split at e
    · rename_i x xs' hx hxs
      cases e
      exact .cons (Rep.dp d v x h1 hx) (RepL.dp ds r xs' h2 hxs)
    · cases e
end
@[irreducible] def eqP (d e : D) (q : Bool → Prop) : Prop := ∃ x y, d.py = some x ∧ e.py = some y ∧ SeqAt.shaped x = true ∧ SeqAt.shaped y = true ∧ q (PyData.eqv x y)
def eqB : D → D → (Bool → Prop) → Prop
  | .int i, .int j, q => q (i == j)
  | .bl i, .bl j, q => q (i == j)
  | .str i, .str j, q => q (i == j)
  | d, e, q => eqP d e q
theorem eqB_py {d e : D} {q : Bool → Prop} (h : eqB d e q) : (∃ x y : V, (∀ B H v, Rep B H d v → v = x) ∧ (∀ B H v, Rep B H e v → v = y) ∧ scal x y = true ∧ q (decide (x = y))) ∨ ∃ x y, d.py = some x ∧ e.py = some y ∧ SeqAt.shaped x = true ∧ SeqAt.shaped y = true ∧ q (PyData.eqv x y) := by
  unfold eqB at h
  split at h
  · rename_i i j
    refine .inl ⟨.int i, .int j, fun _ _ _ r => r, fun _ _ _ r => r, rfl, ?_⟩
    rw [dec_int]
    exact h
  · rename_i i j
    refine .inl ⟨.bl i, .bl j, fun _ _ _ r => r, fun _ _ _ r => r, rfl, ?_⟩
    rw [dec_bl]
    exact h
  · rename_i i j
    refine .inl ⟨.str i, .str j, fun _ _ _ r => r, fun _ _ _ r => r, rfl, ?_⟩
    have e : decide (V.str i = V.str j) = (i == j) := by
      rw [Bool.eq_iff_iff]
      simp
    rw [e]
    exact h
  · unfold eqP at h
    exact .inr h
def eqD : D → D → DK := fun d e q _ => eqB d e fun b => q (.bl b)
def neD : D → D → DK := fun d e q _ => eqB d e fun b => q (.bl (!b))
theorem snd_eq : SndR Λ w (fun x y H Q => rEq x y H Q ∨ rEqD Λ.B.K x y H Q) eqD := fun env W σ H d e v u Q q x S hx r1 r2 h k => by
  rcases eqB_py h with ⟨x, y, h1, h2, h3, h4⟩ | ⟨x, y, h1, h2, h3, h4, h5⟩
  · cases h1 _ _ _ r1
    cases h2 _ _ _ r2
    exact .inl ⟨h3, k _ _ H h4 S .refl rfl⟩
  · exact .inr ⟨x, y, (r1.up hid_le).dp _ _ _ h1, (r2.up hid_le).dp _ _ _ h2, h3, h4, k _ _ H h5 S .refl rfl⟩
theorem snd_ne : SndR Λ w (fun x y H Q => rNe x y H Q ∨ rNeD Λ.B.K x y H Q) neD := fun env W σ H d e v u Q q x S hx r1 r2 h k => by
  rcases eqB_py h with ⟨x, y, h1, h2, h3, h4⟩ | ⟨x, y, h1, h2, h3, h4, h5⟩
  · cases h1 _ _ _ r1
    cases h2 _ _ _ r2
    exact .inl ⟨h3, k _ _ H h4 S .refl rfl⟩
  · exact .inr ⟨x, y, (r1.up hid_le).dp _ _ _ h1, (r2.up hid_le).dp _ _ _ h2, h3, h4, k _ _ H h5 S .refl rfl⟩
theorem ho_eq (hu : X.A.units + 64 < cLine) : X.K = Λ.B.K → OpR X (compareOp .Eq) (fun x y H Q => rEq x y H Q ∨ rEqD Λ.B.K x y H Q) := fun hK => hK ▸ opE op_eq (op_eqD hu)
theorem ho_ne (hu : X.A.units + 64 < cLine) : X.K = Λ.B.K → OpR X (compareOp .NotEq) (fun x y H Q => rNe x y H Q ∨ rNeD Λ.B.K x y H Q) := fun hK => hK ▸ opE op_ne (op_neD hu)
def D.isNon : D → Bool
  | .non => true
  | _ => false
theorem rep_non {B : Tb} {H : Hp} {d : D} {v : V} (r : Rep B H d v) : decide (v = .non) = d.isNon := by
  cases d <;> first | (obtain ⟨_, _, rfl, _⟩ := r; rfl) | (obtain ⟨_, _, _, rfl, _⟩ := r; rfl) | (cases r; rfl)
def isND : D → D → DK := fun d e q _ => match e with
  | .non => q (.bl d.isNon)
  | _ => False
def notND : D → D → DK := fun d e q _ => match e with
  | .non => q (.bl (!d.isNon))
  | _ => False
theorem snd_isN : SndR Λ w (fun x y H Q => y = .non ∧ Q (.bl (decide (x = .non))) H) isND := fun env W σ H d e v u Q q x S hx r1 r2 h k => by
  cases e <;> first | exact h.elim | skip
  cases r2
  exact ⟨rfl, by rw [rep_non r1]; exact k _ _ H h S .refl rfl⟩
theorem snd_notN : SndR Λ w (fun x y H Q => y = .non ∧ Q (.bl (!decide (x = .non))) H) notND := fun env W σ H d e v u Q q x S hx r1 r2 h k => by
  cases e <;> first | exact h.elim | skip
  cases r2
  exact ⟨rfl, by rw [rep_non r1]; exact k _ _ H h S .refl rfl⟩
def isBD : D → D → DK := fun d e q _ => match d, e with
  | .bl i, .bl j => q (.bl (decide (i = j)))
  | _, _ => False
def notBD : D → D → DK := fun d e q _ => match d, e with
  | .bl i, .bl j => q (.bl (!decide (i = j)))
  | _, _ => False
theorem snd_isB : SndR Λ w (fun x y H Q => ∃ a b, x = .bl a ∧ y = .bl b ∧ Q (.bl (decide (a = b))) H) isBD := fun env W σ H d e v u Q q x S hx r1 r2 h k => by
  cases d <;> cases e <;> first | exact h.elim | skip
  cases r1; cases r2
  exact ⟨_, _, rfl, rfl, k _ _ H h S .refl rfl⟩
theorem snd_notB : SndR Λ w (fun x y H Q => ∃ a b, x = .bl a ∧ y = .bl b ∧ Q (.bl (!decide (a = b))) H) notBD := fun env W σ H d e v u Q q x S hx r1 r2 h k => by
  cases d <;> cases e <;> first | exact h.elim | skip
  cases r1; cases r2
  exact ⟨_, _, rfl, rfl, k _ _ H h S .refl rfl⟩
/-! in -/
def D.flat : D → Option V
  | .non => some .non
  | .bl b => some (.bl b)
  | .int i => some (.int i)
  | .str x => some (.str x)
  | _ => none
theorem Rep.flat {B : Tb} {H : Hp} {d : D} {v u : V} (r : Rep B H d v) (h : d.flat = some u) : v = u ∧ flatV v = true := by
  cases d <;> first | (cases h; cases r; exact ⟨rfl, rfl⟩) | (simp [D.flat] at h)
theorem RepL.flat {B : Tb} {H : Hp} : ∀ {ds : List D} {vs us : List V}, RepL B H ds vs → ds.mapM D.flat = some us → vs = us ∧ vs.all flatV = true
  | [], _, _, r, h => by
    cases (show _ = [] from r)
    simp at h
    subst h
    exact ⟨rfl, rfl⟩
  | d :: ds, _, us, ⟨v, r, ev, h1, h2⟩, h => by
    subst ev
    rw [List.mapM_cons] at h
    cases q1 : d.flat with
    | none => rw [q1] at h; cases h
    | some z =>
      rw [q1] at h
      cases q2 : ds.mapM D.flat with
      | none => rw [q2] at h; cases h
      | some zs =>
        rw [q2] at h
        cases h
        obtain ⟨e1, f1⟩ := h1.flat q1
        obtain ⟨e2, f2⟩ := RepL.flat h2 q2
        subst e1 e2
        exact ⟨rfl, by rw [List.all_cons, f1, f2]; rfl⟩
@[irreducible] def inD (neg : Bool) : D → D → DK := fun d e q _ => match e with
  | .lst ds => ∃ z zs, d.flat = some z ∧ ds.mapM D.flat = some zs ∧ q (.bl (if neg then !inV z zs else inV z zs))
  | .tup ds => ∃ z zs, d.flat = some z ∧ ds.mapM D.flat = some zs ∧ q (.bl (if neg then !inV z zs else inV z zs))
  | _ => False
theorem snd_in {neg : Bool} : SndR Λ w (rIn Λ.B.K neg) (inD neg) := fun env W σ H d e v u Q q x S hx r1 r2 h k => by
  unfold inD at h
  cases e <;> first | exact h.elim | skip
  · obtain ⟨z, zs, h1, h2, h3⟩ := h
    obtain ⟨p, vs, rfl, h4, r2⟩ := rep_lst r2
    obtain ⟨e1, f1⟩ := r1.flat h1
    obtain ⟨e2, f2⟩ := r2.flat h2
    subst e1 e2
    exact ⟨p, _, rfl, .inl (sqL_of h4), f1, f2, k _ _ H h3 S .refl rfl⟩
  · obtain ⟨z, zs, h1, h2, h3⟩ := h
    obtain ⟨p, vs, rfl, h4, r2⟩ := rep_tup r2
    obtain ⟨e1, f1⟩ := r1.flat h1
    obtain ⟨e2, f2⟩ := r2.flat h2
    subst e1 e2
    exact ⟨p, _, rfl, .inr h4, f1, f2, k _ _ H h3 S .refl rfl⟩
theorem ho_in : X.K = Λ.B.K → OpR X (compareOp .In) (rIn Λ.B.K false) := fun hK => hK ▸ op_in_seq
theorem ho_notin : X.K = Λ.B.K → OpR X (compareOp .NotIn) (rIn Λ.B.K true) := fun hK => hK ▸ op_notIn_seq
/-! ### subscripts -/
def ixD : D → D → DK := fun d e q _ => match d, e with
  | .lst ds, .int i => ∃ z, atI ds i = some z ∧ q z
  | .tup ds, .int i => ∃ z, atI ds i = some z ∧ q z
  | .str y, .int i => y.length ≤ 100000 ∧ ∃ c, atI y.cps.toList i = some c ∧ q (.str ⟨#[c]⟩)
  | _, _ => False
theorem RepL.atI {B : Tb} {H : Hp} {ds : List D} {vs : List V} {i : Int} {d : D} (r : RepL B H ds vs) (h : L2.atI ds i = some d) : ∃ v, L2.atI vs i = some v ∧ Rep B H d v := by
  unfold L2.atI at h ⊢
  rw [r.len]
  cases q : ixN ds.length i with
  | none => rw [q] at h; cases h
  | some j =>
    rw [q] at h
    exact r.get h
theorem snd_ix : SndR Λ w (rIx Λ.B.K) ixD := fun env W σ H d e v u Q q x S hx r1 r2 h k => by
  cases d <;> cases e <;> first | exact h.elim | skip
  · cases r1; cases r2
    obtain ⟨h0, c, h1, h2⟩ := h
    exact .inr (.inr ⟨_, _, c, rfl, rfl, sz h0, h1, k _ _ H h2 S .refl rfl⟩)
  · cases r2
    obtain ⟨z, h1, h2⟩ := h
    obtain ⟨p, vs, rfl, h4, r1⟩ := rep_lst r1
    obtain ⟨v, hv, rv⟩ := r1.atI h1
    exact .inl ⟨p, vs, _, v, rfl, rfl, sqL_of h4, hv, k _ _ H h2 S .refl rv⟩
  · cases r2
    obtain ⟨z, h1, h2⟩ := h
    obtain ⟨p, vs, rfl, h4, r1⟩ := rep_tup r1
    obtain ⟨v, hv, rv⟩ := r1.atI h1
    exact .inr (.inl ⟨p, vs, _, v, rfl, rfl, h4, hv, k _ _ H h2 S .refl rv⟩)
theorem ix_any : IxR X (rIx X.K) := fun value slice pins s σ H x y v u Q I rx ry h hs => by
  rcases h with h | h | h
  · exact ix_list value slice pins s σ H x y v u Q I rx ry h hs
  · exact ix_tup value slice pins s σ H x y v u Q I rx ry h hs
  · exact ix_str value slice pins s σ H x y v u Q I rx ry h hs
theorem xe_ix (ha : XE X Λ w a ta) (hb : XE X Λ w b tb) (hs : PlainIx b := by exact fun _ _ => rfl) : XE X Λ w (.Subscript a b pos) (dOp ixD ta tb) := ⟨fun hK => by
  obtain ⟨ra, pa, sa⟩ := ha.ex hK
  obtain ⟨rb, pb, sb⟩ := hb.ex hK
  exact ⟨_, pe_ix ix_any pa pb hs, by rw [hK]; exact snd_op snd_ix sa sb⟩⟩
/-! slices -/
abbrev DO := List Sl → (Option Int → Prop) → (DX → Prop) → Prop
def SndO (Λ : Lx) (w : WX) (to : TO) (t : DO) : Prop := ∀ env W σ H (Q : Option Int → Hp → Prop) q x, StOk Λ env W σ H → XOk Λ w env W σ H x → t env q x → (∀ o H', q o → StOk Λ env W σ H' → Ev Λ W H H' → Q o H') → to σ H Q
structure XO (X : Cx) (Λ : Lx) (w : WX) (e : Option Expr) (t : DO) : Prop where
  ex : X.K = Λ.B.K → ∃ te, PO X e te ∧ SndO Λ w te t
def dNoPart : DO := fun _ q _ => q none
def dPart (t : DE) : DO := fun env q x => t env (fun d => match d with
  | .int i => q (some i)
  | _ => False) x
theorem xo_none : XO X Λ w none dNoPart := ⟨fun _ => ⟨_, po_none, fun env W σ H Q q x S hx h k => k none H h S .refl⟩⟩
theorem xo_some (h : XE X Λ w a t) : XO X Λ w (some a) (dPart t) := ⟨fun hK => by
  obtain ⟨r, p, s⟩ := h.ex hK
  refine ⟨_, po_some p, fun env W σ H Q q x S hx h k => s env W σ H _ _ x S hx h fun d v H1 h1 S1 e1 r1 => ?_⟩
  cases d <;> first | exact h1.elim | skip
  exact ⟨_, r1, k _ H1 h1 S1 e1⟩⟩
def cutL {α : Type} (xs : List α) (lo hi : Option Int) : List α := (xs.drop (HT.sIx xs.length 0 lo)).take (HT.sIx xs.length xs.length hi - HT.sIx xs.length 0 lo)
theorem RepL.cut {B : Tb} {H : Hp} {ds : List D} {vs : List V} (r : RepL B H ds vs) (lo hi : Option Int) : RepL B H (cutL ds lo hi) (cutV vs lo hi) := by
  unfold cutL cutV
  rw [r.len]
  exact (r.drop _).take _
def slD : D → Option Int → Option Int → (D → Prop) → Prop := fun d lo hi q => match d with
  | .lst ds => q (.lst (cutL ds lo hi))
  | .tup ds => q (.tup (cutL ds lo hi))
  | _ => False
def dSl (t : DE) (l h : DO) : DE := fun env q x => t env (fun d => l env (fun lo => h env (fun hi => slD d lo hi q) x) x) x
theorem cut_all {α : Type} {xs : List α} {lo hi : Option Int} (h : HT.sIx xs.length 0 lo = 0 ∧ HT.sIx xs.length xs.length hi = xs.length) : cutL xs lo hi = xs := by
  unfold cutL
  rw [h.1, h.2]
  simp
theorem xe_slice {lo hi : Option Expr} {p2 : Pos} {tl th : DO} (ha : XE X Λ w a t) (hl : XO X Λ w lo tl) (hh : XO X Λ w hi th) : XE X Λ w (.Subscript a (.Slice lo hi none p2) pos) (dSl t tl th) := ⟨fun hK => by
  obtain ⟨ra, pa, sa⟩ := ha.ex hK
  obtain ⟨rl, pl, sl⟩ := hl.ex hK
  obtain ⟨rh, ph, sh⟩ := hh.ex hK
  refine ⟨_, pe_slice (slE sl_list sl_tupA) pa pl ph, fun env W σ H Q q x S hx h k => sa env W σ H _ _ x S hx h fun d v H1 h1 S1 e1 r1 => sl env W σ H1 _ _ x S1 (hx.on e1) h1 fun lo H2 h2 S2 e2 => sh env W σ H2 _ _ x S2 (hx.on (e1.trans e2)) h2 fun hi H3 h3 S3 e3 => ?_⟩
  have r3 := r1.up (e2.trans e3).vis
  have k3 : ∀ d v H', q d → StOk Λ env W σ H' → Ev Λ W H3 H' → Rep Λ.B (Λ.vis W H') d v → Q v H' := fun d v H' a b c => k d v H' a b (((e1.trans e2).trans e3).trans c)
  rw [hK]
  cases d <;> first | exact h3.elim | skip
  · obtain ⟨p, vs, rfl, h4, r4⟩ := rep_lst r3
    exact .inl ⟨p, vs, rfl, sqL_of h4, fin_lst S3 (r4.cut lo hi) h3 k3⟩
  · obtain ⟨p, vs, rfl, h4, r4⟩ := rep_tup r3
    refine .inr ⟨p, vs, rfl, h4, fun z => ?_, fun z => fin_tup S3 (r4.cut lo hi) h3 k3⟩
    rw [r4.len] at z
    have h3' : q (.tup (cutL _ lo hi)) := h3
    rw [cut_all z] at h3'
    exact k3 _ _ H3 h3' S3 .refl r3⟩
/-- xs[a:b], a new list -/
def dSlL (t : DE) (l h : DO) : DA := fun env q x => t env (fun d => l env (fun lo => h env (fun hi => match d with
  | .lst ds => q (cutL ds lo hi)
  | _ => False) x) x) x
theorem xl_slice {lo hi : Option Expr} {p2 : Pos} {tl th : DO} (ha : XE X Λ w a t) (hl : XO X Λ w lo tl) (hh : XO X Λ w hi th) : XL X Λ w (.Subscript a (.Slice lo hi none p2) pos) (dSlL t tl th) := ⟨fun hK => by
  obtain ⟨ra, pa, sa⟩ := ha.ex hK
  obtain ⟨rl, pl, sl⟩ := hl.ex hK
  obtain ⟨rh, ph, sh⟩ := hh.ex hK
  refine ⟨_, pe_slice sl_list pa pl ph, fun env W σ H Q q x S hx h k => sa env W σ H _ _ x S hx h fun d v H1 h1 S1 e1 r1 => sl env W σ H1 _ _ x S1 (hx.on e1) h1 fun lo H2 h2 S2 e2 => sh env W σ H2 _ _ x S2 (hx.on (e1.trans e2)) h2 fun hi H3 h3 S3 e3 => ?_⟩
  have r3 := r1.up (e2.trans e3).vis
  have e13 := (e1.trans e2).trans e3
  rw [hK]
  cases d <;> first | exact h3.elim | skip
  obtain ⟨p, vs, rfl, h4, r4⟩ := rep_lst r3
  refine ⟨p, vs, rfl, sqL_of h4, fun l hl => ?_⟩
  have s := same_new (o := .lst (cutV vs lo hi)) hl
  exact k _ l _ _ h3 (S3.grow s) (e13.trans (.of s)) (e13.free hl) upd_same ((r4.cut lo hi).up (vis_hid S3 hl))⟩
/-- xs[::-1] -/
def dRevL (t : DE) : DA := fun env q x => t env (fun d => match d with
  | .lst ds => q ds.reverse
  | _ => False) x
theorem xl_rev {k : Nat} {p1 p2 p3 : Pos} (ha : XE X Λ w a t) : XL X Λ w (.Subscript a (.Slice none none (some (.UnaryOp .USub (.Constant (.int 1) k p1) p2)) p3) pos) (dRevL t) := ⟨fun hK => by
  obtain ⟨ra, pa, sa⟩ := ha.ex hK
  refine ⟨_, pe_revL pa, fun env W σ H Q q x S hx h k => sa env W σ H _ _ x S hx h fun d v H1 h1 S1 e1 r1 => ?_⟩
  rw [hK]
  cases d <;> first | exact h1.elim | skip
  obtain ⟨p, vs, rfl, h4, r4⟩ := rep_lst r1
  refine ⟨p, vs, rfl, sqL_of h4, fun l hl => ?_⟩
  have s := same_new (o := .lst vs.reverse) hl
  exact k _ l _ _ h1 (S1.grow s) (e1.trans (.of s)) (e1.free hl) upd_same (r4.rev.up (vis_hid S1 hl))⟩
/-- t[::-1] -/
def dRevT (t : DE) : DE := fun env q x => t env (fun d => match d with
  | .tup ds => q (.tup ds.reverse)
  | _ => False) x
theorem xe_revT {k : Nat} {p1 p2 p3 : Pos} (ha : XE X Λ w a t) : XE X Λ w (.Subscript a (.Slice none none (some (.UnaryOp .USub (.Constant (.int 1) k p1) p2)) p3) pos) (dRevT t) := ⟨fun hK => by
  obtain ⟨ra, pa, sa⟩ := ha.ex hK
  refine ⟨_, pe_revT pa, fun env W σ H Q q x S hx h k => sa env W σ H _ _ x S hx h fun d v H1 h1 S1 e1 r1 => ?_⟩
  rw [hK]
  cases d <;> first | exact h1.elim | skip
  obtain ⟨p, vs, rfl, h4, r4⟩ := rep_tup r1
  exact ⟨p, vs, rfl, h4, fin_tup S1 r4.rev h1 fun d v H' a b c => k d v H' a b (e1.trans c)⟩⟩
/-! ### a list in a slot, its own or not: len, an item -/
def slotL (i : Nat) (f : List D → DK) (g : D → DK) : DE := fun env q x => match env[i]? with
  | some (.ow ds) => f ds q x
  | some (.va d) => g d q x
  | _ => False
/-! ### built-in calls -/
def dCB (f : List D → DK) (u : DA) : DE := fun env q x => u env (fun ds => f ds q x) x
theorem snd_cb {r : List V → Hp → VK → Prop} {f : List D → DK} {ra : TA} {u : DA} (hr : SndC Λ w r f) (ha : SndA Λ w ra u) : Snd Λ w (tCB r ra) (dCB f u) := fun env W σ H Q q x S hx h k =>
  ha env W σ H _ _ x S hx h fun ds vs H1 h1 S1 e1 r1 => hr env W σ H1 ds vs Q q x S1 (hx.on e1) r1 h1 fun d3 v3 H3 h3 S3 e3 r3 => k d3 v3 H3 h3 S3 (e1.trans e3) r3
theorem xe_callB {id : String} {y : Str} {p : Pos} {r : List V → Hp → VK → Prop} {f : List D → DK} {u : DA} (hc : X.K = Λ.B.K → CallR X (.builtin id) r) (hr : SndC Λ w r f) (hg : Gl X y) (hm : X.mg y = none) (hv : bootBuiltins y = some (.builtin id)) (ha : XA X Λ w (e :: es) u) (hn : y ≠ "__name__" := by decide) (hdb : (y == ("__debug__" : Str)) = false := by decide)
    (he : starEach (e :: es) X.env = (false, eval e X.env) :: starEach es X.env := by rfl) (hpl : (backTo pos (starEach es X.env)).any (·.1) = false := by rfl) : XE X Λ w (.Call (.Name y p) (e :: es) [] pos) (dCB f u) := ⟨fun hK => by
  obtain ⟨ra, pa, sa⟩ := ha.ex hK
  exact ⟨_, pe_callB (hc hK) hg hm hv pa hn hdb he hpl, snd_cb hr sa⟩⟩
theorem xe_callTy {id : String} {y : Str} {p : Pos} {r : List V → Hp → VK → Prop} {f : List D → DK} {u : DA} (hc : X.K = Λ.B.K → CallR X (.type id) r) (hr : SndC Λ w r f) (hg : Gl X y) (hm : X.mg y = none) (hv : bootBuiltins y = some (.type id)) (ha : XA X Λ w (e :: es) u) (hn : y ≠ "__name__" := by decide) (hdb : (y == ("__debug__" : Str)) = false := by decide)
    (he : starEach (e :: es) X.env = (false, eval e X.env) :: starEach es X.env := by rfl) (hpl : (backTo pos (starEach es X.env)).any (·.1) = false := by rfl) : XE X Λ w (.Call (.Name y p) (e :: es) [] pos) (dCB f u) := ⟨fun hK => by
  obtain ⟨ra, pa, sa⟩ := ha.ex hK
  exact ⟨_, pe_callTy (hc hK) hg hm hv pa hn hdb he hpl, snd_cb hr sa⟩⟩
theorem RepL.one_inv {B : Tb} {H : Hp} {d : D} {vs : List V} (r : RepL B H [d] vs) : ∃ v, vs = [v] ∧ Rep B H d v := by
  obtain ⟨v, r', rfl, h1, h2⟩ := r
  cases (show r' = [] from h2)
  exact ⟨v, rfl, h1⟩
theorem RepL.two_inv {B : Tb} {H : Hp} {d e : D} {vs : List V} (r : RepL B H [d, e] vs) : ∃ v u, vs = [v, u] ∧ Rep B H d v ∧ Rep B H e u := by
  obtain ⟨v, r', rfl, h1, u, r2, rfl, h2, h3⟩ := r
  cases (show r2 = [] from h3)
  exact ⟨v, u, rfl, h1, h2⟩
def lenD : List D → DK := fun ds q _ => match ds with
  | [.lst xs] => q (.int xs.length)
  | [.tup xs] => q (.int xs.length)
  | [.str y] => y.length ≤ 100000 ∧ q (.int y.length)
  | _ => False
theorem snd_len : SndC Λ w (fun xs H Q => (∃ p ys, xs = [.ref p] ∧ (SqL Λ.B.K H p ys ∨ SqT Λ.B.K H p ys) ∧ Q (.int ys.length) H) ∨ ∃ z, xs = [.str z] ∧ z.length ≤ sizeLine ∧ Q (.int z.length) H) lenD := fun env W σ H ds vs Q q x S hx r h k => by
  unfold lenD at h
  split at h
  · obtain ⟨v, rfl, r1⟩ := r.one_inv
    obtain ⟨p, vs, rfl, h4, r4⟩ := rep_lst r1
    exact .inl ⟨p, vs, rfl, .inl (sqL_of h4), by rw [r4.len]; exact k _ _ H h S .refl rfl⟩
  · obtain ⟨v, rfl, r1⟩ := r.one_inv
    obtain ⟨p, vs, rfl, h4, r4⟩ := rep_tup r1
    exact .inl ⟨p, vs, rfl, .inr h4, by rw [r4.len]; exact k _ _ H h S .refl rfl⟩
  · obtain ⟨v, rfl, r1⟩ := r.one_inv
    cases r1
    exact .inr ⟨_, rfl, sz h.1, k _ _ H h.2 S .refl rfl⟩
  · exact h.elim
theorem hc_len : X.K = Λ.B.K → CallR X (.builtin "len") (fun xs H Q => (∃ p ys, xs = [.ref p] ∧ (SqL Λ.B.K H p ys ∨ SqT Λ.B.K H p ys) ∧ Q (.int ys.length) H) ∨ ∃ z, xs = [.str z] ∧ z.length ≤ sizeLine ∧ Q (.int z.length) H) := fun hK => hK ▸ callE call_len_seq call_len_str
def absD : List D → DK := fun ds q _ => match ds with
  | [.int i] => q (.int (if i < 0 then -i else i))
  | _ => False
theorem snd_abs : SndC Λ w (fun xs H Q => ∃ i, xs = [.int i] ∧ Q (.int (if i < 0 then -i else i)) H) absD := fun env W σ H ds vs Q q x S hx r h k => by
  unfold absD at h
  split at h
  · obtain ⟨v, rfl, r1⟩ := r.one_inv
    cases r1
    exact ⟨_, rfl, k _ _ H h S .refl rfl⟩
  · exact h.elim
def max2D : List D → DK := fun ds q _ => match ds with
  | [.int i, .int j] => q (.int (if j > i then j else i))
  | _ => False
theorem snd_max2 : SndC Λ w (fun xs H Q => ∃ i j, xs = [.int i, .int j] ∧ Q (.int (if j > i then j else i)) H) max2D := fun env W σ H ds vs Q q x S hx r h k => by
  unfold max2D at h
  split at h
  · obtain ⟨v, u, rfl, r1, r2⟩ := r.two_inv
    cases r1; cases r2
    exact ⟨_, _, rfl, k _ _ H h S .refl rfl⟩
  · exact h.elim
def min2D : List D → DK := fun ds q _ => match ds with
  | [.int i, .int j] => q (.int (if j < i then j else i))
  | _ => False
theorem snd_min2 : SndC Λ w (fun xs H Q => ∃ i j, xs = [.int i, .int j] ∧ Q (.int (if j < i then j else i)) H) min2D := fun env W σ H ds vs Q q x S hx r h k => by
  unfold min2D at h
  split at h
  · obtain ⟨v, u, rfl, r1, r2⟩ := r.two_inv
    cases r1; cases r2
    exact ⟨_, _, rfl, k _ _ H h S .refl rfl⟩
  · exact h.elim
def int1D : List D → DK := fun ds q _ => match ds with
  | [.int i] => q (.int i)
  | [.bl k] => q (.int (if k then 1 else 0))
  | _ => False
theorem snd_int1 : SndC Λ w (fun xs H Q => (∃ i, xs = [.int i] ∧ Q (.int i) H) ∨ ∃ k, xs = [.bl k] ∧ Q (.int (if k then 1 else 0)) H) int1D := fun env W σ H ds vs Q q x S hx r h k => by
  unfold int1D at h
  split at h
  · obtain ⟨v, rfl, r1⟩ := r.one_inv
    cases r1
    exact .inl ⟨_, rfl, k _ _ H h S .refl rfl⟩
  · obtain ⟨v, rfl, r1⟩ := r.one_inv
    cases r1
    exact .inr ⟨_, rfl, k _ _ H h S .refl rfl⟩
  · exact h.elim
def strD : List D → DK := fun ds q _ => match ds with
  | [.int i] => i.natAbs.log2 < 1920 ∧ q (.str (toString i))
  | [.str y] => q (.str y)
  | _ => False
theorem snd_str : SndC Λ w (fun xs H Q => (∃ i, xs = [.int i] ∧ i.natAbs.log2 < 1920 ∧ Q (.str (toString i)) H) ∨ ∃ a, xs = [.str a] ∧ Q (.str a) H) strD := fun env W σ H ds vs Q q x S hx r h k => by
  unfold strD at h
  split at h
  · obtain ⟨v, rfl, r1⟩ := r.one_inv
    cases r1
    exact .inl ⟨_, rfl, h.1, k _ _ H h.2 S .refl rfl⟩
  · obtain ⟨v, rfl, r1⟩ := r.one_inv
    cases r1
    exact .inr ⟨_, rfl, k _ _ H h S .refl rfl⟩
  · exact h.elim
/-- sum of a list, a tuple of ints -/
def sumD : List D → DK := fun ds q _ => ∃ ns : List Int, (ds = [.lst (ns.map .int)] ∨ ds = [.tup (ns.map .int)]) ∧ q (.int ns.sum)
theorem snd_sum : SndC Λ w (fun vs H Q => rSum Λ.B.K vs H Q ∨ rSumT Λ.B.K vs H Q) sumD := fun env W σ H ds vs Q q x S hx r h k => by
  obtain ⟨ns, e | e, h⟩ := h
  · subst e
    obtain ⟨v, rfl, r1⟩ := r.one_inv
    obtain ⟨p, vs, rfl, h4, r4⟩ := rep_lst r1
    cases r4.ints
    exact .inl ⟨p, ns, rfl, sqL_of h4, k _ _ H h S .refl rfl⟩
  · subst e
    obtain ⟨v, rfl, r1⟩ := r.one_inv
    obtain ⟨p, vs, rfl, h4, r4⟩ := rep_tup r1
    cases r4.ints
    exact .inr ⟨p, ns, rfl, h4, k _ _ H h S .refl rfl⟩
theorem hc_sum (hc : X.calm = true) : X.K = Λ.B.K → CallR X (.builtin "sum") (fun vs H Q => rSum Λ.B.K vs H Q ∨ rSumT Λ.B.K vs H Q) := fun hK => hK ▸ callE (cr_sum hc) (cr_sumT hc)
def allD : List D → DK := fun ds q _ => ∃ bs : List Bool, ds = [.lst (bs.map .bl)] ∧ q (.bl (bs.all id))
theorem snd_all : SndC Λ w (rAll Λ.B.K) allD := fun env W σ H ds vs Q q x S hx r h k => by
  obtain ⟨ns, e, h⟩ := h
  subst e
  obtain ⟨v, rfl, r1⟩ := r.one_inv
  obtain ⟨p, vs, rfl, h4, r4⟩ := rep_lst r1
  cases r4.bools
  exact ⟨p, ns, rfl, sqL_of h4, k _ _ H h S .refl rfl⟩
theorem hc_all (hc : X.calm = true) : X.K = Λ.B.K → CallR X (.builtin "all") (rAll Λ.B.K) := fun hK => hK ▸ cr_all hc
def tupleD : List D → DK := fun ds q _ => match ds with
  | [.lst xs] => q (.tup xs)
  | [.tup xs] => q (.tup xs)
  | _ => False
theorem snd_tuple : SndC Λ w (fun xs H Q => ∃ p ys, xs = [.ref p] ∧ ((SqL Λ.B.K H p ys ∧ ∀ l, H l = none → Q (.ref l) (upd H l (.tup ys))) ∨ (SqT Λ.B.K H p ys ∧ Q (.ref p) H))) tupleD := fun env W σ H ds vs Q q x S hx r h k => by
  unfold tupleD at h
  split at h
  · obtain ⟨v, rfl, r1⟩ := r.one_inv
    obtain ⟨p, vs, rfl, h4, r4⟩ := rep_lst r1
    exact ⟨p, vs, rfl, .inl ⟨sqL_of h4, fin_tup S r4 h k⟩⟩
  · obtain ⟨v, rfl, r1⟩ := r.one_inv
    obtain ⟨p, vs, rfl, h4, r4⟩ := rep_tup r1
    exact ⟨p, vs, rfl, .inr ⟨h4, k _ _ H h S .refl r1⟩⟩
  · exact h.elim
theorem hc_tuple : X.K = Λ.B.K → CallR X (.type "tuple") (fun xs H Q => ∃ p ys, xs = [.ref p] ∧ ((SqL Λ.B.K H p ys ∧ ∀ l, H l = none → Q (.ref l) (upd H l (.tup ys))) ∨ (SqT Λ.B.K H p ys ∧ Q (.ref p) H))) := fun hK => hK ▸ call_tuple_of
/-! new lists by calls -/
def dCL (f : List D → (List D → Prop) → (DX → Prop) → Prop) (u : DA) : DA := fun env q x => u env (fun ds => f ds q x) x
theorem snd_cl {r : List V → Hp → VK → Prop} {f : List D → (List D → Prop) → (DX → Prop) → Prop} {ra : TA} {u : DA} (hr : SndCL Λ w r f) (ha : SndA Λ w ra u) : SndL Λ w (tCB r ra) (dCL f u) := fun env W σ H Q q x S hx h k =>
  ha env W σ H _ _ x S hx h fun ds vs H1 h1 S1 e1 r1 => hr env W σ H1 ds vs Q q x S1 (hx.on e1) r1 h1 fun d3 p v3 H3 h3 S3 e3 hp h4 r3 => k d3 p v3 H3 h3 S3 (e1.trans e3) (e1.free hp) h4 r3
theorem xl_callTy {id : String} {y : Str} {p : Pos} {r : List V → Hp → VK → Prop} {f : List D → (List D → Prop) → (DX → Prop) → Prop} {u : DA} (hc : X.K = Λ.B.K → CallR X (.type id) r) (hr : SndCL Λ w r f) (hg : Gl X y) (hm : X.mg y = none) (hv : bootBuiltins y = some (.type id)) (ha : XA X Λ w (e :: es) u) (hn : y ≠ "__name__" := by decide) (hdb : (y == ("__debug__" : Str)) = false := by decide)
    (he : starEach (e :: es) X.env = (false, eval e X.env) :: starEach es X.env := by rfl) (hpl : (backTo pos (starEach es X.env)).any (·.1) = false := by rfl) : XL X Λ w (.Call (.Name y p) (e :: es) [] pos) (dCL f u) := ⟨fun hK => by
  obtain ⟨ra, pa, sa⟩ := ha.ex hK
  exact ⟨_, pe_callTy (hc hK) hg hm hv pa hn hdb he hpl, snd_cl hr sa⟩⟩
theorem xl_callB {id : String} {y : Str} {p : Pos} {r : List V → Hp → VK → Prop} {f : List D → (List D → Prop) → (DX → Prop) → Prop} {u : DA} (hc : X.K = Λ.B.K → CallR X (.builtin id) r) (hr : SndCL Λ w r f) (hg : Gl X y) (hm : X.mg y = none) (hv : bootBuiltins y = some (.builtin id)) (ha : XA X Λ w (e :: es) u) (hn : y ≠ "__name__" := by decide) (hdb : (y == ("__debug__" : Str)) = false := by decide)
    (he : starEach (e :: es) X.env = (false, eval e X.env) :: starEach es X.env := by rfl) (hpl : (backTo pos (starEach es X.env)).any (·.1) = false := by rfl) : XL X Λ w (.Call (.Name y p) (e :: es) [] pos) (dCL f u) := ⟨fun hK => by
  obtain ⟨ra, pa, sa⟩ := ha.ex hK
  exact ⟨_, pe_callB (hc hK) hg hm hv pa hn hdb he hpl, snd_cl hr sa⟩⟩
theorem finL {env : List Sl} {W : Ow} {σ : L2.St} {H : Hp} {Q : VK} {q : List D → Prop} {ds : List D} {vs : List V} (S : StOk Λ env W σ H) (r : RepL Λ.B (Λ.vis W H) ds vs) (h : q ds)
    (k : ∀ ds p vs H', q ds → StOk Λ env W σ H' → Ev Λ W H H' → H p = none → H' p = some (.lst vs) → RepL Λ.B (hid (fun a => a = p) (Λ.vis W H')) ds vs → Q (.ref p) H') : ∀ p, H p = none → Q (.ref p) (upd H p (.lst vs)) := fun p hp => by
  have s := same_new (o := .lst vs) hp
  exact k _ p _ _ h (S.grow s) (.of s) hp upd_same (r.up (vis_hid S hp))
def listD : List D → (List D → Prop) → (DX → Prop) → Prop := fun ds q _ => match ds with
  | [.lst xs] => q xs
  | [.tup xs] => q xs
  | _ => False
theorem snd_list : SndCL Λ w (fun xs H Q => ∃ p ys, xs = [.ref p] ∧ (SqL Λ.B.K H p ys ∨ SqT Λ.B.K H p ys) ∧ ∀ l, H l = none → Q (.ref l) (upd H l (.lst ys))) listD := fun env W σ H ds vs Q q x S hx r h k => by
  unfold listD at h
  split at h
  · obtain ⟨v, rfl, r1⟩ := r.one_inv
    obtain ⟨p, vs, rfl, h4, r4⟩ := rep_lst r1
    exact ⟨p, vs, rfl, .inl (sqL_of h4), finL S r4 h k⟩
  · obtain ⟨v, rfl, r1⟩ := r.one_inv
    obtain ⟨p, vs, rfl, h4, r4⟩ := rep_tup r1
    exact ⟨p, vs, rfl, .inr h4, finL S r4 h k⟩
  · exact h.elim
theorem hc_list : X.K = Λ.B.K → CallR X (.type "list") (fun xs H Q => ∃ p ys, xs = [.ref p] ∧ (SqL Λ.B.K H p ys ∨ SqT Λ.B.K H p ys) ∧ ∀ l, H l = none → Q (.ref l) (upd H l (.lst ys))) := fun hK => hK ▸ call_list_of
def dCatL (ta tb : DE) : DA := fun env q x => ta env (fun d => tb env (fun e => match d, e with
  | .lst i, .lst j => i.length + j.length ≤ 100000 ∧ q (i ++ j)
  | _, _ => False) x) x
theorem xl_cat (ha : XE X Λ w a ta) (hb : XE X Λ w b tb) : XL X Λ w (.BinOp a .Add b pos) (dCatL ta tb) := ⟨fun hK => by
  obtain ⟨ra, pa, sa⟩ := ha.ex hK
  obtain ⟨rb, pb, sb⟩ := hb.ex hK
  refine ⟨_, pe_op op_cat pa pb, fun env W σ H Q q x S hx h k => sa env W σ H _ _ x S hx h fun d v H1 h1 S1 e1 r1 => sb env W σ H1 _ _ x S1 (hx.on e1) h1 fun d2 v2 H2 h2 S2 e2 r2 => ?_⟩
  have r1 := r1.up e2.vis
  cases d <;> cases d2 <;> first | exact h2.elim | skip
  obtain ⟨p, vs, rfl, h3, r3⟩ := rep_lst r1
  obtain ⟨p', vs', rfl, h4, r4⟩ := rep_lst r2
  exact ⟨p, p', vs, vs', rfl, rfl, h3, h4, by rw [r3.len, r4.len]; exact sz h2.1, finL S2 (r3.app r4) h2.2 fun ds p vs H' a b c hp g r => k ds p vs H' a b ((e1.trans e2).trans c) ((e1.trans e2).free hp) g r⟩⟩
def dRepL (ta tb : DE) : DA := fun env q x => ta env (fun d => tb env (fun e => match d, e with
  | .lst xs, .int k => (-(2 ^ 63) ≤ k ∧ k < 2 ^ 63 ∧ xs.length * k.toNat ≤ 100000) ∧ q (List.replicate k.toNat xs).flatten
  | _, _ => False) x) x
theorem xl_rep (ha : XE X Λ w a ta) (hb : XE X Λ w b tb) : XL X Λ w (.BinOp a .Mult b pos) (dRepL ta tb) := ⟨fun hK => by
  obtain ⟨ra, pa, sa⟩ := ha.ex hK
  obtain ⟨rb, pb, sb⟩ := hb.ex hK
  refine ⟨_, pe_op op_rep pa pb, fun env W σ H Q q x S hx h k => sa env W σ H _ _ x S hx h fun d v H1 h1 S1 e1 r1 => sb env W σ H1 _ _ x S1 (hx.on e1) h1 fun d2 v2 H2 h2 S2 e2 r2 => ?_⟩
  have r1 := r1.up e2.vis
  cases d <;> cases d2 <;> first | exact h2.elim | skip
  obtain ⟨p, vs, rfl, h3, r3⟩ := rep_lst r1
  cases r2
  exact ⟨p, _, vs, rfl, rfl, h3, h2.1.1, h2.1.2.1, by rw [r3.len]; exact sz h2.1.2.2, finL S2 (r3.rep _) h2.2 fun ds p vs H' a b c hp g r => k ds p vs H' a b ((e1.trans e2).trans c) ((e1.trans e2).free hp) g r⟩⟩
end
end Eb

/-! ## own layer: own defs, instances, operators, draws, without a heap -/
namespace Eb
open PySem PySem.Spec PyProof.Rows L2 StX
abbrev DW := List D → DK
/-- a def's promise: it raises nothing -/
def spF0 (B : Tb) (wp : DW) : Sp := fun vs H Q _ => ∃ (Z : Addr → Prop) (ds : List D) (q : D → Prop), (∀ a, Z a → H a ≠ none) ∧ RepL B (hid Z H) ds vs ∧ wp ds q (fun _ => False) ∧ ∀ d v H', q d → Same H H' → Rep B (hid Z H') d v → Q v H'
/-- .. it may raise -/
def spF (B : Tb) (wp : DW) : Sp := fun vs H Q E => ∃ (Z : Addr → Prop) (ds : List D) (q : D → Prop) (x : DX → Prop), (∀ a, Z a → H a ≠ none) ∧ RepL B (hid Z H) ds vs ∧ wp ds q x ∧ (∀ d v H', q d → Same H H' → Rep B (hid Z H') d v → Q v H') ∧ ∀ dx cv od H', x dx → Same H H' → RepX B (hid Z H') dx cv od → E cv od H'
/-- .. it draws -/
def spG0 (B : Tb) (wp : DW) : Sp := fun vs H Q _ => ∃ (Z : Addr → Prop) (ds : List D) (q : D → Prop) (d l : Addr) (vr : List V), vs = .ref d :: vr ∧ Deal H d l ∧ (∀ a, Z a → H a ≠ none) ∧ RepL B (hid (fun a => Z a ∨ (a = d ∨ a = l)) H) ds vr ∧
  wp ds q (fun _ => False) ∧ ∀ r v H', q r → Drew d l H H' → Rep B (hid (fun a => Z a ∨ (a = d ∨ a = l)) H') r v → Q v H'
/-- an __init__: p is the new instance -/
abbrev DWI := List D → (List D → Prop) → (DX → Prop) → Prop
def spI0 (B : Tb) (c : Nat) (wp : DWI) : Sp := fun vs H Q _ => ∃ (Z : Addr → Prop) (ds : List D) (q : List D → Prop) (p dx : Addr) (vr : List V), vs = .ref p :: vr ∧ H p = some (.ins (B.C c) dx []) ∧ ¬ Z p ∧ (∀ a, Z a → H a ≠ none) ∧ RepL B (hid (fun a => Z a ∨ a = p) H) ds vr ∧
  wp ds q (fun _ => False) ∧ ∀ fs H' dy gs, q fs → (∀ a o, a ≠ p → H a = some o → H' a = some o) → H' p = some (.ins (B.C c) dy gs) → gs.map (·.1) = B.fl c → RepL B (hid (fun a => Z a ∨ a = p) H') fs (gs.map (·.2)) → Q .non H'
def endsF (q : D → Prop) (x : DX → Prop) : DEnds := ⟨fun _ => q .non, fun _ => q, fun _ => False, fun _ => False, fun _ => x⟩
def wpOf (n m : Nat) (t : DS) : DW := fun ds q x => ds.length = n ∧ t (ds.map Sl.va ++ List.replicate m .un) (endsF q x)
def wpOfG (n m : Nat) (t : DS) : DW := fun ds q x => ds.length = n ∧ t (.dl :: (ds.map Sl.va ++ List.replicate m .un)) (endsF q x)
def endI (c n : Nat) (q : List D → Prop) (env : List Sl) : Prop := match env[0]? with
  | some (Sl.se c' fs) => c' = c ∧ fs.length = n ∧ q fs
  | _ => False
def endsI (c n : Nat) (q : List D → Prop) (x : DX → Prop) : DEnds := ⟨endI c n q, fun _ _ => False, fun _ => False, fun _ => False, fun _ => x⟩
def wpOfI (c k n m : Nat) (t : DS) : DWI := fun ds q x => ds.length = n ∧ t (.se c [] :: (ds.map Sl.va ++ List.replicate m .un)) (endsI c k q x)
theorem start_len {N : List Str} {vs : List V} (h : vs.length ≤ N.length) : (L2.start N vs).length = N.length := by
  unfold L2.start
  simp
  omega
theorem start_get {N : List Str} {vs : List V} {i : Nat} (h : i < vs.length) : (L2.start N vs)[i]? = some (some vs[i]) := by
  unfold L2.start
  rw [List.getElem?_append_left (by simpa using h)]
  simp [h]
theorem env_get {ds : List D} {m i : Nat} {s : Sl} (h : (ds.map Sl.va ++ List.replicate m Sl.un)[i]? = some s) : (∃ d, ds[i]? = some d ∧ s = .va d) ∨ s = .un := by
  by_cases c : i < ds.length
  · rw [List.getElem?_append_left (by simpa using c)] at h
    simp only [List.getElem?_map] at h
    rw [List.getElem?_eq_getElem c] at h
    cases h
    exact .inl ⟨_, List.getElem?_eq_getElem c, rfl⟩
  · rw [List.getElem?_append_right (by simpa using c)] at h
    have := List.getElem?_eq_some_iff.mp h
    obtain ⟨_, e⟩ := this
    rw [List.getElem_replicate] at e
    exact .inr e.symm
section
variable {P : Program} {w' : World} {K : PySem.W.Frag} {mg : Str → Option Value} {base : Heap} {name qual : Str} {st : Stmt} {f : Addr} {fd : FuncData} {N ps : List Str} {k : Nat} {B : Tb}
theorem run_body {X : Cx} {Λ : Lx} {w : WX} {sts : List Stmt} {t : DS} {env : List Sl} {W : Ow} {σ : L2.St} {H : Hp} {E : Ends} {e : DEnds} (h : XSs X Λ w sts t) (hK : X.K = Λ.B.K) (S : StOk Λ env W σ H) (L : Lnk Λ w W H E e) (ht : t env e) : ∃ ts, PSs X sts ts ∧ ts E σ H := by
  obtain ⟨r, p, s⟩ := h.ex hK
  exact ⟨r, p, s env W σ H E e S L ht⟩
theorem st_start {Z : Addr → Prop} {H : Hp} {ds : List D} {vs : List V} {m : Nat} (hZ : ∀ a, Z a → H a ≠ none) (r : RepL B (hid Z H) ds vs) (hN : N.length = ds.length + m) : StOk ⟨B, Z, fun _ => False, H, none⟩ (ds.map Sl.va ++ List.replicate m .un) (fun _ => none) (L2.start N vs) H where
  len := by rw [start_len (by rw [r.len]; omega)]; simp [hN]
  sl := fun i s e => by
    rcases env_get e with ⟨d, hd, rfl⟩ | rfl
    · obtain ⟨v, hv, rv⟩ := r.get hd
      obtain ⟨hi, e2⟩ := List.getElem?_eq_some_iff.mp hv
      refine ⟨v, by rw [start_get hi, e2], rv.up (hid_anti fun a g => ?_)⟩
      rcases g with z | z | ⟨j, z⟩
      · exact z
      · exact z.elim
      · cases z
    · trivial
  fr := fun a o _ h => h
  mx := fun a m => m.elim
  zx := hZ
  wx := fun i p e => by cases e
  wi := fun i j p e => by cases e
  dl := fun d l e => by cases e
  wf := ⟨0, fun _ _ => rfl⟩
theorem out0 {Z : Addr → Prop} {H H' : Hp} : Same ((⟨B, Z, fun _ => False, H, none⟩ : Lx).out H') (hid Z H') := hid_anti fun a z => .inl z
theorem fnF0 (F : Fun K name qual st f fd) (S : FnScope N ps (defScope st)) {t : DS} {n m : Nat} (hn : ps.length = n) (hN : N.length = n + m) (hK : K = B.K)
    (body : ∀ (cdv : Value) (A : Around) (outer : List Env) (s : Shared) (H : Hp) (E : XK) (Z M : Addr → Prop) (H0 : Hp) (dl : Option (Addr × Addr)), Room k (A.deeper (envOfC qual (defScope st) s.heap.objs.size f cdv)) →
      XSs (cxOf CX0 P w' K mg base N qual (defScope st) f cdv A outer s H E).nox ⟨B, Z, M, H0, dl⟩ w0 (defBody st) t) : FnOk P w' K mg base CX0 (k + 1) f fd ps (spF0 B (wpOf n m t)) := by
  refine F.ok S (fun vs H Q E ⟨Z, ds, _, _, r, h, _⟩ => by rw [r.len, h.1, hn]) fun cdv A outer s H vs Q E hr ⟨Z, ds, q, hZ, r, ⟨hl, ht⟩, kq⟩ => ?_
  refine run_body (body cdv A outer s H E Z (fun _ => False) H none hr) hK (st_start hZ r (by rw [hl]; exact hN)) ?_ ht
  refine ⟨fun env' W' σ' H' q S' _ => kq _ _ _ q (fun a o h => S'.fr a o (fun z => z) h) rfl, fun _ _ _ _ q => q.elim, fun _ _ _ _ q => q.elim, fun d v env' W' σ' H' q S' rp => kq d v H' q (fun a o h => S'.fr a o (fun z => z) h) ((rp.up out_of).up out0), fun _ _ _ _ _ _ _ q => q.elim⟩
theorem fnF (F : Fun K name qual st f fd) (S : FnScope N ps (defScope st)) {t : DS} {n m : Nat} (hn : ps.length = n) (hN : N.length = n + m) (hK : K = B.K)
    (body : ∀ (cdv : Value) (A : Around) (outer : List Env) (s : Shared) (H : Hp) (E : XK) (Z M : Addr → Prop) (H0 : Hp) (dl : Option (Addr × Addr)), Room k (A.deeper (envOfC qual (defScope st) s.heap.objs.size f cdv)) →
      XSs (cxOf (L2.CX P w') P w' K mg base N qual (defScope st) f cdv A outer s H E) ⟨B, Z, M, H0, dl⟩ (fun cls d _ H => E cls d H) (defBody st) t) : FnOk P w' K mg base (L2.CX P w') (k + 1) f fd ps (spF B (wpOf n m t)) := by
  refine F.okX S (fun vs H Q E ⟨Z, ds, _, _, _, r, h, _⟩ => by rw [r.len, h.1, hn]) fun cdv A outer s H vs Q E hr ⟨Z, ds, q, x, hZ, r, ⟨hl, ht⟩, kq, kx⟩ => ?_
  refine run_body (body cdv A outer s H E Z (fun _ => False) H none hr) hK (st_start hZ r (by rw [hl]; exact hN)) ?_ ht
  refine ⟨fun env' W' σ' H' q S' _ => kq _ _ _ q (fun a o h => S'.fr a o (fun z => z) h) rfl, fun _ _ _ _ q => q.elim, fun _ _ _ _ q => q.elim, fun d v env' W' σ' H' q S' rp => kq d v H' q (fun a o h => S'.fr a o (fun z => z) h) ((rp.up out_of).up out0), fun env' W' σ' H' dx cv od q S' _ rx => ?_⟩
  refine kx dx cv od H' q (fun a o h => S'.fr a o (fun z => z) h) ?_
  have up : Same ((⟨B, Z, fun _ => False, H, none⟩ : Lx).vis W' H') (hid Z H') := hid_anti fun a z => .inl z
  refine ⟨rx.1, ?_⟩
  have r2 := rx.2
  split
  · rename_i e
    rw [e] at r2
    exact r2
  · rename_i d e
    rw [e] at r2
    obtain ⟨a, v, h1, h2, h3⟩ := r2
    exact ⟨a, v, h1, up _ _ h2, h3.up up⟩
/-- the entry of a def that draws -/
theorem st_startG {Z : Addr → Prop} {H : Hp} {d l : Addr} {ds : List D} {vs : List V} {m : Nat} (D0 : Deal H d l) (hZ : ∀ a, Z a → H a ≠ none) (r : RepL B (hid (fun a => Z a ∨ (a = d ∨ a = l)) H) ds vs) (hN : N.length = ds.length + 1 + m) :
    StOk ⟨B, Z, fun a => a = d ∨ a = l, H, some (d, l)⟩ (.dl :: (ds.map Sl.va ++ List.replicate m .un)) (fun _ => none) (L2.start N (.ref d :: vs)) H where
  len := by rw [start_len (by rw [List.length_cons, r.len]; omega)]; simp [hN]; omega
  sl := fun i s e => by
    cases i with
    | zero =>
      cases e
      exact ⟨d, l, rfl, by rw [start_get (by simp)]; rfl⟩
    | succ i =>
      rw [List.getElem?_cons_succ] at e
      rcases env_get e with ⟨d', hd, rfl⟩ | rfl
      · obtain ⟨v, hv, rv⟩ := r.get hd
        obtain ⟨hi, e2⟩ := List.getElem?_eq_some_iff.mp hv
        refine ⟨v, by rw [start_get (by simpa using hi), ← e2]; rfl, rv.up (hid_anti fun a g => ?_)⟩
        rcases g with z | z | ⟨j, z⟩
        · exact .inl z
        · exact .inr z
        · cases z
      · trivial
  fr := fun a o _ h => h
  mx := fun a m => by
    rcases m with rfl | rfl
    · exact D0.none _ (by simp)
    · exact D0.none _ (by simp)
  zx := hZ
  wx := fun i p e => by cases e
  wi := fun i j p e => by cases e
  dl := fun d' l' e => by
    cases e
    exact ⟨D0, .inl rfl, .inr rfl, fun i => ⟨by simp, by simp⟩⟩
  wf := ⟨0, fun _ _ => rfl⟩
theorem drew_of {Z : Addr → Prop} {H H' : Hp} {d l : Addr} {env : List Sl} {W : Ow} {σ : L2.St} (S : StOk ⟨B, Z, fun a => a = d ∨ a = l, H, some (d, l)⟩ env W σ H') : Drew d l H H' := ⟨(S.dl d l rfl).1, fun b o n h => S.fr b o (fun z => n (by simpa using z)) h⟩
theorem fnG0 (F : Fun K name qual st f fd) (S : FnScope N ps (defScope st)) {t : DS} {n m : Nat} (hn : ps.length = n + 1) (hN : N.length = n + 1 + m) (hK : K = B.K)
    (body : ∀ (cdv : Value) (A : Around) (outer : List Env) (s : Shared) (H : Hp) (E : XK) (Z M : Addr → Prop) (H0 : Hp) (dl : Option (Addr × Addr)), Room k (A.deeper (envOfC qual (defScope st) s.heap.objs.size f cdv)) →
      XSs (cxOf CX0 P w' K mg base N qual (defScope st) f cdv A outer s H E).nox ⟨B, Z, M, H0, dl⟩ w0 (defBody st) t) : FnOk P w' K mg base CX0 (k + 1) f fd ps (spG0 B (wpOfG n m t)) := by
  refine F.ok S (fun vs H Q E ⟨Z, ds, _, d, l, vr, e, _, _, r, h, _⟩ => by rw [e, List.length_cons, r.len, h.1, hn]) fun cdv A outer s H vs Q E hr ⟨Z, ds, q, d, l, vr, e, D0, hZ, r, ⟨hl, ht⟩, kq⟩ => ?_
  subst e
  refine run_body (body cdv A outer s H E Z (fun a => a = d ∨ a = l) H (some (d, l)) hr) hK (st_startG D0 hZ r (by rw [hl]; exact hN)) ?_ ht
  exact ⟨fun env' W' σ' H' q S' _ => kq _ _ _ q (drew_of S') rfl, fun _ _ _ _ q => q.elim, fun _ _ _ _ q => q.elim, fun d v env' W' σ' H' q S' rp => kq d v H' q (drew_of S') (rp.up out_of), fun _ _ _ _ _ _ _ q => q.elim⟩
end
/-! ### calls -/
section
variable {X : Cx} {Λ : Lx} {w : WX} {a b c e o : Expr} {es : List Expr} {ta tb tc t : DE} {tA tB : DT} {u : DA} {pos p apos : Pos} {k : Nat} {f : Addr} {fd : FuncData} {ps : List Str} {wp : DW} {y : Str}
theorem hG {env : List Sl} {W : Ow} {σ : L2.St} {H : Hp} (S : StOk Λ env W σ H) : ∀ a, Λ.G W a → H a ≠ none := fun a g h => S.fresh h g
theorem call0 {env : List Sl} {W : Ow} {σ : L2.St} {H : Hp} {Q : VK} {q : D → Prop} {E : XK} {ds : List D} {vs : List V} (S : StOk Λ env W σ H) (r : RepL Λ.B (Λ.vis W H) ds vs) (h : wp ds q (fun _ => False))
    (k : ∀ d v H', q d → StOk Λ env W σ H' → Ev Λ W H H' → Rep Λ.B (Λ.vis W H') d v → Q v H') : spF0 Λ.B wp vs H Q E :=
  ⟨Λ.G W, ds, q, hG S, r, h, fun d v H' hd s rp => k d v H' hd (S.grow s) (.of s) rp⟩
def dF0 (wp : DW) (u : DA) : DE := fun env q x => u env (fun ds => wp ds q (fun _ => False)) x
theorem xe_call (F : FnOk X.prog X.w X.K X.mg X.base CX0 k f fd ps (spF0 Λ.B wp)) (hr : Room k X.A) (hg : Gl X y) (hm : X.mg y = some (.ref f)) (hk : PySem.W.keepIn X.K (.ref f) = true) (hb : Binds X.K fd ps []) (ha : XA X Λ w (e :: es) u) (hdb : (y == ("__debug__" : Str)) = false := by decide)
    (he : starEach (e :: es) X.env = (false, eval e X.env) :: starEach es X.env := by rfl) (hpl : (backTo pos (starEach es X.env)).any (·.1) = false := by rfl) : XE X Λ w (.Call (.Name y p) (e :: es) [] pos) (dF0 wp u) := ⟨fun hK => by
  obtain ⟨ra, pa, sa⟩ := ha.ex hK
  refine ⟨_, pe_call F hr hg hm hk hb .nil pass0 pa hdb he hpl, fun env W σ H Q q x S hx h k => sa env W σ H _ _ x S hx h fun ds vs H1 h1 S1 e1 r1 => ?_⟩
  rw [List.append_nil]
  exact call0 S1 r1 h1 fun d v H' a b c => k d v H' a b (e1.trans c)⟩
theorem xe_call0 (F : FnOk X.prog X.w X.K X.mg X.base CX0 k f fd ps (spF0 Λ.B wp)) (hr : Room k X.A) (hg : Gl X y) (hm : X.mg y = some (.ref f)) (hk : PySem.W.keepIn X.K (.ref f) = true) (hb : Binds X.K fd ps []) (hdb : (y == ("__debug__" : Str)) = false := by decide) :
    XE X Λ w (.Call (.Name y p) [] [] pos) (dF0 wp dNil) := ⟨fun hK => by
  refine ⟨_, pe_call0 F hr hg hm hk hb .nil pass0 hdb, fun env W σ H Q q x S hx h k => ?_⟩
  exact call0 (E := E0) (ds := []) (vs := []) S rfl h k⟩
/-- .. of a def that may raise -/
def dF (wp : DW) (u : DA) : DE := fun env q x => u env (fun ds => wp ds q x) x
theorem xe_callX (tk : Takes X w) (F : FnOk X.prog X.w X.K X.mg X.base (L2.CX X.prog X.w) k f fd ps (spF Λ.B wp)) (hr : Room k X.A) (hg : Gl X y) (hm : X.mg y = some (.ref f)) (hk : PySem.W.keepIn X.K (.ref f) = true) (hb : Binds X.K fd ps []) (ha : XA X Λ w (e :: es) u) (hdb : (y == ("__debug__" : Str)) = false := by decide)
    (he : starEach (e :: es) X.env = (false, eval e X.env) :: starEach es X.env := by rfl) (hpl : (backTo pos (starEach es X.env)).any (·.1) = false := by rfl) : XE X Λ w (.Call (.Name y p) (e :: es) [] pos) (dF wp u) := ⟨fun hK => by
  obtain ⟨ra, pa, sa⟩ := ha.ex hK
  refine ⟨_, pe_callS F hr hg hm hk hb (fun σ => passAt tk σ) pa hdb he hpl, fun env W σ H Q q x S hx h k => sa env W σ H _ _ x S hx h fun ds vs H1 h1 S1 e1 r1 => ?_⟩
  exact ⟨Λ.G W, ds, q, x, hG S1, r1, h1, fun d v H' hd s rp => k d v H' hd (S1.grow s) (e1.trans (.of s)) rp, fun dx cv od H' hd s rp => hx dx cv od H' hd (S1.grow s) (e1.trans (.of s)) rp⟩⟩
/-- a def that draws: its first argument is the source -/
def dG0 (i : Nat) (wp : DW) (u : DA) : DE := fun env q x => match env[i]? with
  | some .dl => u env (fun ds => wp ds q (fun _ => False)) x
  | _ => False
theorem call_g {env : List Sl} {W : Ow} {σ : L2.St} {H : Hp} {Q : VK} {q : D → Prop} {E : XK} {ds : List D} {vs : List V} {d l : Addr} (S : StOk Λ env W σ H) (ed : Λ.dl = some (d, l)) (r : RepL Λ.B (Λ.vis W H) ds vs) (h : wp ds q (fun _ => False))
    (k : ∀ d v H', q d → StOk Λ env W σ H' → Ev Λ W H H' → Rep Λ.B (Λ.vis W H') d v → Q v H') : spG0 Λ.B wp (.ref d :: vs) H Q E := by
  obtain ⟨D0, md, ml, _⟩ := S.dl d l ed
  have g1 : ∀ H', Same (Λ.vis W H') (hid (fun a => Λ.G W a ∨ (a = d ∨ a = l)) H') := fun H' => hid_anti fun a g => by
    rcases g with g | rfl | rfl
    · exact g
    · exact .inr (.inl md)
    · exact .inr (.inl ml)
  have g2 : ∀ H', Same (hid (fun a => Λ.G W a ∨ (a = d ∨ a = l)) H') (Λ.vis W H') := fun H' => hid_anti fun a g => .inl g
  refine ⟨Λ.G W, ds, q, d, l, vs, rfl, D0, hG S, r.up (g1 H), h, fun r' v H' hd dr rp => ?_⟩
  obtain ⟨S', ev⟩ := S.drew ed dr
  exact k r' v H' hd S' ev (rp.up (g2 H'))
theorem xe_callG {i : Nat} {y1 : Str} {p1 : Pos} (ho : PE X (.Name y1 p1) (tVar i)) (F : FnOk X.prog X.w X.K X.mg X.base CX0 k f fd ps (spG0 Λ.B wp)) (hr : Room k X.A) (hg : Gl X y) (hm : X.mg y = some (.ref f)) (hk : PySem.W.keepIn X.K (.ref f) = true) (hb : Binds X.K fd ps []) (ha : XA X Λ w es u) (hdb : (y == ("__debug__" : Str)) = false := by decide)
    (he : starEach (.Name y1 p1 :: es) X.env = (false, eval (.Name y1 p1) X.env) :: starEach es X.env := by rfl) (hpl : (backTo pos (starEach es X.env)).any (·.1) = false := by rfl) : XE X Λ w (.Call (.Name y p) (.Name y1 p1 :: es) [] pos) (dG0 i wp u) := ⟨fun hK => by
  obtain ⟨ra, pa, sa⟩ := ha.ex hK
  refine ⟨_, pe_call F hr hg hm hk hb .nil pass0 (pa_cons ho pa he) hdb he hpl, fun env W σ H Q q x S hx h k => ?_⟩
  unfold dG0 at h
  split at h
  · rename_i hd
    obtain ⟨d, l, ed, hσ⟩ := S.sl i _ hd
    refine ⟨_, hσ, sa env W σ H _ _ x S hx h fun ds vs H1 h1 S1 e1 r1 => ?_⟩
    show spG0 Λ.B wp ((V.ref d :: vs) ++ []) H1 Q E0
    rw [List.append_nil]
    exact call_g S1 ed r1 h1 fun d v H' a b c => k d v H' a b (e1.trans c)
  · exact h.elim⟩
/-- what a draw gives -/
def wpDraw : DW := fun ds q _ => match ds with
  | [.int n] => 0 < n ∧ Sm n ∧ ∀ r, 0 ≤ r → r < n → q (.int r)
  | _ => False
/-! ### fields -/
def dFld (cs : List (Nat × Nat)) (t : DE) : DE := fun env q x => t env (fun d => match d with
  | .obj c ds => match cs.lookup c with
    | some k => match ds[k]? with
      | some z => q z
      | none => False
    | none => False
  | _ => False) x
/-- a field of a class: it is read by its place -/
def FldOk (B : Tb) (f : Str) (c k : Nat) : Prop := Cls B.K (B.C c) ∧ NoAttr B.K (B.C c) f ∧ ∀ vs : List V, vs.length = (B.fl c).length → ((B.fl c).zip vs).lookup f = vs[k]?
theorem zip_maps {gs : List (Str × V)} : (gs.map (·.1)).zip (gs.map (·.2)) = gs := by
  induction gs with
  | nil => rfl
  | cons g gs ih => simp [ih]
theorem FldOk.get {B : Tb} {g : Str} {c k : Nat} {gs : List (Str × V)} (h : FldOk B g c k) (e : gs.map (·.1) = B.fl c) : gs.lookup g = (gs.map (·.2))[k]? := by
  have := h.2.2 (gs.map (·.2)) (by rw [← e]; simp)
  rw [← e, zip_maps] at this
  exact this
theorem xe_fld {g : Str} {cs : List (Nat × Nat)} (hc : ∀ c k, cs.lookup c = some k → FldOk Λ.B g c k) (ha : XE X Λ w a t) (hb : attributeBase a g X.env (eval a X.env) = eval a X.env := by rfl) : XE X Λ w (.Attribute a g pos) (dFld cs t) := ⟨fun hK => by
  obtain ⟨r, p, s⟩ := ha.ex hK
  refine ⟨_, pe_fld p hb, fun env W σ H Q q x S hx h k => s env W σ H _ _ x S hx h fun d v H1 h1 S1 e1 r1 => ?_⟩
  cases d <;> first | exact h1.elim | skip
  rename_i c ds
  obtain ⟨a, dx, gs, rfl, hg, en, rl⟩ := r1
  simp only at h1
  cases q1 : cs.lookup c with
  | none => rw [q1] at h1; exact h1.elim
  | some kk =>
    rw [q1] at h1
    simp only at h1
    cases q2 : ds[kk]? with
    | none => rw [q2] at h1; exact h1.elim
    | some z =>
      rw [q2] at h1
      have FO := hc c kk q1
      obtain ⟨v, hv, rv⟩ := rl.get q2
      refine ⟨a, _, dx, gs, v, rfl, hid_le _ _ hg, by rw [hK]; exact FO.1, by rw [hK]; exact FO.2.1, by rw [FO.get en]; exact hv, k z v H1 h1 S1 e1 rv⟩⟩
/-! ### methods -/
def dM0 (c : Nat) (wp : DW) (t : DE) (u : DA) : DE := fun env q x => t env (fun d => match d with
  | .obj c' fs => c' = c ∧ u env (fun ds => wp (.obj c' fs :: ds) q (fun _ => False)) x
  | _ => False) x
theorem noF {gs : List (Str × V)} {m : Str} {ns : List Str} (e : gs.map (·.1) = ns) (h : ns.contains m = false) : gs.lookup m = none := by
  subst e
  induction gs with
  | nil => rfl
  | cons g gs ih =>
    obtain ⟨n, v⟩ := g
    simp only [List.map_cons, List.contains_cons, Bool.or_eq_false_iff] at h
    rw [List.lookup_cons, h.1]
    exact ih h.2
theorem xe_meth {c : Nat} {m : Str} {pl : Sem Bool} (he : XE X Λ w o t) (cl : Cls X.K (Λ.B.C c)) (hm : Meth X.K (Λ.B.C c) m f) (hf : (Λ.B.fl c).contains m = false) (F : FnOk X.prog X.w X.K X.mg X.base CX0 k f fd ps (spF0 Λ.B wp)) (hr : Room k X.A) (hb : Binds X.K fd ps []) (ha : XA X Λ w (e :: es) u)
    (hst : starEach (e :: es) X.env = (false, eval e X.env) :: starEach es X.env := by rfl) (hpl : (backTo pos (starEach es X.env)).any (·.1) = false := by rfl)
    (ht : eval (.Call (.Attribute o m apos) (e :: es) [] pos) X.env = (do
      let ov ← eval o X.env
      standAt apos.atName
      let (f, first) ← holding [ov] (getMethod ov m pl)
      callWith pos f first (backTo pos (starEach (e :: es) X.env)) (backToKw pos (keywordEach [] X.env))) := by rfl) : XE X Λ w (.Call (.Attribute o m apos) (e :: es) [] pos) (dM0 c wp t u) := ⟨fun hK => by
  obtain ⟨r, p, s⟩ := he.ex hK
  obtain ⟨r', p', s'⟩ := ha.ex hK
  refine ⟨_, pe_meth p cl hm F hr hb .nil pass0 p' hst hpl ht, fun env W σ H Q q x S hx h k => s env W σ H _ _ x S hx h fun d v H1 h1 S1 e1 r1 => ?_⟩
  cases d <;> first | exact h1.elim | skip
  rename_i c' fs
  obtain ⟨rfl, h1⟩ := h1
  obtain ⟨a, dx, gs, rfl, hg, en, rl⟩ := id r1
  refine ⟨a, dx, gs, rfl, hid_le _ _ hg, noF en hf, s' env W σ H1 _ _ x S1 (hx.on e1) h1 fun ds vs H2 h2 S2 e2 r2 => ?_⟩
  rw [List.append_nil]
  exact call0 S2 (RepL.cons (r1.up e2.vis) r2) h2 fun d v H' a b c => k d v H' a b ((e1.trans e2).trans c)⟩
theorem xe_meth0 {c : Nat} {m : Str} {pl : Sem Bool} (he : XE X Λ w o t) (cl : Cls X.K (Λ.B.C c)) (hm : Meth X.K (Λ.B.C c) m f) (hf : (Λ.B.fl c).contains m = false) (F : FnOk X.prog X.w X.K X.mg X.base CX0 k f fd ps (spF0 Λ.B wp)) (hr : Room k X.A) (hb : Binds X.K fd ps [])
    (ht : eval (.Call (.Attribute o m apos) [] [] pos) X.env = (do
      let ov ← eval o X.env
      standAt apos.atName
      let (f, first) ← holding [ov] (getMethod ov m pl)
      callWith pos f first (backTo pos (starEach [] X.env)) (backToKw pos (keywordEach [] X.env))) := by rfl) : XE X Λ w (.Call (.Attribute o m apos) [] [] pos) (dM0 c wp t dNil) := ⟨fun hK => by
  obtain ⟨r, p, s⟩ := he.ex hK
  refine ⟨_, pe_meth0 p cl hm F hr hb .nil pass0 ht, fun env W σ H Q q x S hx h k => s env W σ H _ _ x S hx h fun d v H1 h1 S1 e1 r1 => ?_⟩
  cases d <;> first | exact h1.elim | skip
  rename_i c' fs
  obtain ⟨rfl, h1⟩ := h1
  obtain ⟨a, dx, gs, rfl, hg, en, rl⟩ := id r1
  refine ⟨a, dx, gs, rfl, hid_le _ _ hg, noF en hf, ?_⟩
  exact call0 (E := E0) (ds := [.obj c' fs]) (vs := [.ref a]) S1 (RepL.cons r1 RepL.nil) h1 fun d v H' a b c => k d v H' a b (e1.trans c)⟩
/-! ### operators of own classes -/
def op2D (c : Nat) (wp : DW) : D → D → DK := fun d e q _ => match d, e with
  | .obj c1 f1, .obj c2 f2 => c1 = c ∧ c2 = c ∧ wp [.obj c1 f1, .obj c2 f2] q (fun _ => False)
  | _, _ => False
theorem rep_ins {W : Ow} {H : Hp} {c : Nat} {fs : List D} {v : V} (r : Rep Λ.B (Λ.vis W H) (.obj c fs) v) : ∃ a, v = .ref a ∧ InsO H a (Λ.B.C c) := by
  obtain ⟨a, dx, gs, rfl, hg, _⟩ := r
  exact ⟨a, rfl, dx, gs, hid_le _ _ hg⟩
theorem snd_op2 {c : Nat} {E : XK} : SndR Λ w (rB2 (Λ.B.C c) (spF0 Λ.B wp) E) (op2D c wp) := fun env W σ H d e v u Q q x S hx r1 r2 h k => by
  cases d <;> cases e <;> first | exact h.elim | skip
  obtain ⟨rfl, rfl, h⟩ := h
  obtain ⟨a1, rfl, i1⟩ := rep_ins r1
  obtain ⟨a2, rfl, i2⟩ := rep_ins r2
  exact ⟨a1, a2, rfl, rfl, i1, i2, call0 S (RepL.cons r1 (RepL.cons r2 RepL.nil)) h k⟩
def opID (c : Nat) (wp : DW) : D → D → DK := fun d e q _ => match d, e with
  | .obj c1 f1, .int i => c1 = c ∧ wp [.obj c1 f1, .int i] q (fun _ => False)
  | _, _ => False
theorem snd_opI {c : Nat} {E : XK} : SndR Λ w (rBI (Λ.B.C c) (spF0 Λ.B wp) E) (opID c wp) := fun env W σ H d e v u Q q x S hx r1 r2 h k => by
  cases d <;> cases e <;> first | exact h.elim | skip
  obtain ⟨rfl, h⟩ := h
  obtain ⟨a1, rfl, i1⟩ := rep_ins r1
  cases r2
  exact ⟨a1, _, rfl, rfl, i1, call0 S (RepL.cons r1 (RepL.cons (d := .int _) rfl RepL.nil)) h k⟩
def un1D (c : Nat) (wp : DW) : D → DK := fun d q _ => match d with
  | .obj c1 f1 => c1 = c ∧ wp [.obj c1 f1] q (fun _ => False)
  | _ => False
theorem snd_un1 {c : Nat} {E : XK} : SndU Λ w (rUO (Λ.B.C c) (spF0 Λ.B wp) E) (un1D c wp) := fun env W σ H d v Q q x S hx r1 h k => by
  cases d <;> first | exact h.elim | skip
  obtain ⟨rfl, h⟩ := h
  obtain ⟨a1, rfl, i1⟩ := rep_ins r1
  exact ⟨a1, rfl, i1, call0 S (RepL.cons r1 RepL.nil) h k⟩
end
end Eb

/-! ## own layer: instances being made; isinstance; texts; an own list looked at -/
namespace Eb
open PySem PySem.Spec PyProof.Rows L2 StX
section
variable {P : Program} {w' : World} {K : PySem.W.Frag} {mg : Str → Option Value} {base : Heap} {name qual : Str} {st : Stmt} {f : Addr} {fd : FuncData} {N ps : List Str} {k : Nat} {B : Tb}
/-- the entry of an __init__ -/
theorem st_startI {Z : Addr → Prop} {H : Hp} {c : Nat} {p dx : Addr} {ds : List D} {vs : List V} {m : Nat} (hp : H p = some (.ins (B.C c) dx [])) (hz : ¬ Z p) (hZ : ∀ a, Z a → H a ≠ none) (r : RepL B (hid (fun a => Z a ∨ a = p) H) ds vs) (hN : N.length = ds.length + 1 + m) :
    StOk ⟨B, Z, fun a => a = p, H, none⟩ (.se c [] :: (ds.map Sl.va ++ List.replicate m .un)) (wput (fun _ => none) 0 (some p)) (L2.start N (.ref p :: vs)) H where
  len := by rw [start_len (by rw [List.length_cons, r.len]; omega)]; simp [hN]; omega
  sl := fun i s e => by
    cases i with
    | zero =>
      cases e
      exact ⟨p, dx, [], rfl, by rw [start_get (by simp)]; rfl, hp, ⟨by simp, rfl⟩, rfl⟩
    | succ i =>
      rw [List.getElem?_cons_succ] at e
      rcases env_get e with ⟨d', hd, rfl⟩ | rfl
      · obtain ⟨v, hv, rv⟩ := r.get hd
        obtain ⟨hi, e2⟩ := List.getElem?_eq_some_iff.mp hv
        refine ⟨v, by rw [start_get (by simpa using hi), ← e2]; rfl, rv.up (hid_anti fun a g => ?_)⟩
        rcases g with z | z | ⟨j, z⟩
        · exact .inl z
        · exact .inr z
        · by_cases q : j = 0
          · rw [wput_same q] at z; cases z; exact .inr rfl
          · rw [wput_ne q] at z; cases z
      · trivial
  fr := fun a o _ h => h
  mx := fun a m => by
    have e : a = p := m
    rw [e, hp]; simp
  zx := hZ
  wx := fun i q e => by
    by_cases c : i = 0
    · rw [wput_same c] at e; cases e
      exact ⟨by rw [hp]; simp, hz, .inr rfl⟩
    · rw [wput_ne c] at e; cases e
  wi := fun i j q e1 e2 => by
    by_cases c : i = 0
    · by_cases c2 : j = 0
      · rw [c, c2]
      · rw [wput_ne c2] at e2; cases e2
    · rw [wput_ne c] at e1; cases e1
  dl := fun d' l' e => by cases e
  wf := ⟨1, fun j hj => wput_ne (by omega)⟩
theorem initL {Z : Addr → Prop} {H : Hp} {c n : Nat} {p dx : Addr} {q : List D → Prop} {Q : VK} (hp : H p = some (.ins (B.C c) dx [])) (hfl : (B.fl c).length = n)
    (kq : ∀ fs H' dy gs, q fs → (∀ a o, a ≠ p → H a = some o → H' a = some o) → H' p = some (.ins (B.C c) dy gs) → gs.map (·.1) = B.fl c → RepL B (hid (fun a => Z a ∨ a = p) H') fs (gs.map (·.2)) → Q .non H') :
    Lnk ⟨B, Z, fun a => a = p, H, none⟩ w0 (wput (fun _ => none) 0 (some p)) H { nx := fun _ H' => Q .non H', rt := Q } (endsI c n q (fun _ => False)) := by
  refine ⟨fun env' W' σ' H' h S' _ => ?_, fun _ _ _ _ z => z.elim, fun _ _ _ _ z => z.elim, fun _ _ _ _ _ _ z => z.elim, fun _ _ _ _ _ _ _ z => z.elim⟩
  have h : endI c n q env' := h
  unfold endI at h
  split at h
  · rename_i c' fs he
    obtain ⟨rfl, hn, hq⟩ := h
    obtain ⟨p', dx', gs, hw, hσ, h1, ⟨h2, hm⟩, h3⟩ := S'.sl 0 _ he
    have e : p' = p := hm
    subst e
    refine kq fs H' dx' gs hq (fun a o n h => S'.fr a o n h) h1 ?_ (h3.up (hid_anti fun a g => ?_))
    · rw [h2, hn, ← hfl, List.take_length]
    · rcases g with z | z
      · exact .inl z
      · exact .inr (.inl z)
  · exact h.elim
theorem fnI0 (F : Fun K name qual st f fd) (S : FnScope N ps (defScope st)) {t : DS} {c nf n m : Nat} (hn : ps.length = n + 1) (hN : N.length = n + 1 + m) (hK : K = B.K) (hfl : (B.fl c).length = nf)
    (body : ∀ (cdv : Value) (A : Around) (outer : List Env) (s : Shared) (H : Hp) (E : XK) (Z M : Addr → Prop) (H0 : Hp) (dl : Option (Addr × Addr)), Room k (A.deeper (envOfC qual (defScope st) s.heap.objs.size f cdv)) →
      XSs (cxOf CX0 P w' K mg base N qual (defScope st) f cdv A outer s H E).nox ⟨B, Z, M, H0, dl⟩ w0 (defBody st) t) : FnOk P w' K mg base CX0 (k + 1) f fd ps (spI0 B c (wpOfI c nf n m t)) := by
  refine F.ok S (fun vs H Q E ⟨Z, ds, _, p, dx, vr, e, _, _, _, r, h, _⟩ => by rw [e, List.length_cons, r.len, h.1, hn]) fun cdv A outer s H vs Q E hr ⟨Z, ds, q, p, dx, vr, e, hp, hz, hZ, r, ⟨hl, ht⟩, kq⟩ => ?_
  subst e
  exact run_body (body cdv A outer s H E Z (fun a => a = p) H none hr) hK (st_startI hp hz hZ r (by rw [hl]; exact hN)) (initL hp hfl kq) ht
end
section
variable {X : Cx} {Λ : Lx} {w : WX} {a b c e o : Expr} {es : List Expr} {ta tb tc t : DE} {tA tB : DT} {u : DA} {pos p apos : Pos} {k : Nat} {f : Addr} {fd : FuncData} {ps : List Str} {wp : DW} {y : Str}
/-- self.g = e, the next field -/
def dSelf (i c k : Nat) (t : DE) : DS := fun env e => match env[i]? with
  | some (Sl.se c' fs) => t env (fun d => c' = c ∧ fs.length = k ∧ e.nx (env.set i (.se c (fs ++ [d])))) (e.ex env)
  | _ => False
/-- the k-th field of the class is g, and is not there before -/
def PutOk (B : Tb) (g : Str) (c k : Nat) : Prop := Cls B.K (B.C c) ∧ NoAttr B.K (B.C c) g ∧ (B.fl c).take (k + 1) = (B.fl c).take k ++ [g] ∧ k < 1000 ∧ ((B.fl c).take k).contains g = false ∧ k ≤ (B.fl c).length
theorem putF_new {g : Str} {v : V} : ∀ {gs : List (Str × V)}, (gs.map (·.1)).contains g = false → putF g v gs = gs ++ [(g, v)]
  | [], _ => rfl
  | (n, x) :: gs, h => by
    simp only [List.map_cons, List.contains_cons, Bool.or_eq_false_iff] at h
    have ne : ¬ n = g := fun e => by
      have := h.1
      rw [e, beq_self_eq_true] at this
      cases this
    unfold putF
    rw [if_neg ne, putF_new h.2]
    rfl
theorem xs_self {i cc kk : Nat} {g y : Str} {p1 p2 : Pos} (ok : PutOk Λ.B g cc kk) (ho : PE X (.Name y p1) (tVar i)) (he : XE X Λ w a t) (hs : swapsWith a (some (.Attribute (.Name y p1) g p2)) pos.line X.env = pure false := by rfl) : XS X Λ w (.Assign [.Attribute (.Name y p1) g p2] a pos) (dSelf i cc kk t) := ⟨fun hK => by
  obtain ⟨r, p, s⟩ := he.ex hK
  refine ⟨_, ps_fld ho p hs, fun env W σ H E e S L h => ?_⟩
  unfold dSelf at h
  split at h
  · rename_i c' fs hd
    obtain ⟨q, dx, gs, hw, hσ, hq, ⟨hn, hM⟩, rl⟩ := S.sl i _ hd
    refine s env W σ H _ _ _ S L.xok h fun d v H1 h1 S1 e1 r1 => ?_
    obtain ⟨rfl, rfl, h1⟩ := h1
    have hq1 := e1.own i q _ hw hq
    have hlen : gs.length < 1000 := by
      have := congrArg List.length hn
      rw [List.length_map, List.length_take] at this
      have := ok.2.2.2.1
      omega
    refine ⟨_, hσ, q, _, dx, gs, rfl, hq1, by rw [hK]; exact ok.1, by rw [hK]; exact ok.2.1, hlen, ?_⟩
    rw [putF_new (by rw [hn]; exact ok.2.2.2.2.1)]
    have v1 : Same (Λ.vis W H1) (Λ.vis W (upd H1 q (.ins (Λ.B.C c') dx (gs ++ [(g, v)])))) := hid_grow fun a u gg ha => ⟨gg, by rw [upd_ne (show a ≠ q from fun z => gg (.inr (.inr ⟨i, by rw [z]; exact hw⟩)))]; exact ha⟩
    have m1 : (gs ++ [(g, v)]).map (·.1) = (Λ.B.fl c').take (fs ++ [d]).length := by
      rw [List.map_append, hn, List.length_append]
      exact ok.2.2.1.symm
    have m2 : RepL Λ.B (Λ.vis W (upd H1 q (.ins (Λ.B.C c') dx (gs ++ [(g, v)])))) (fs ++ [d]) ((gs ++ [(g, v)]).map (·.2)) := by
      rw [List.map_append]
      exact ((rl.up e1.vis).app (.one r1)).up v1
    obtain ⟨S2, s2⟩ := S1.mut (o := .ins (Λ.B.C c') dx (gs ++ [(g, v)])) hw (s := .se c' (fs ++ [d])) ⟨q, dx, gs ++ [(g, v)], hw, hσ, upd_same, ⟨m1, hM⟩, m2⟩ (List.getElem?_eq_some_iff.mp hd).1
    exact L.nx _ _ _ _ h1 S2 (e1.vis.trans s2)
  · exact h.elim⟩
/-! ### own lists looked at -/
def lenO (i : Nat) : DE := fun env q _ => match env[i]? with
  | some (Sl.ow ds) => q (.int ds.length)
  | some (Sl.va (D.lst ds)) => q (.int ds.length)
  | some (Sl.va (D.tup ds)) => q (.int ds.length)
  | _ => False
theorem xe_lenO {i : Nat} {y1 : Str} {p1 : Pos} (ho : PE X (.Name y1 p1) (tVar i)) (hg : Gl X "len") (hm : X.mg "len" = none) (he : starEach [.Name y1 p1] X.env = (false, eval (.Name y1 p1) X.env) :: starEach [] X.env := by rfl) (hpl : (backTo pos (starEach [] X.env)).any (·.1) = false := by rfl) : XE X Λ w (.Call (.Name "len" p) [.Name y1 p1] [] pos) (lenO i) := ⟨fun hK => by
  refine ⟨_, pe_callB call_len_seq hg hm PySem.boot_len (pa_cons ho pa_nil he) (by decide) (by decide) he hpl, fun env W σ H Q q x S hx h k => ?_⟩
  rw [hK]
  unfold lenO at h
  split at h
  · rename_i ds hd
    obtain ⟨l, vs, hw, hσ, hl, rl, hm⟩ := own_at S hd
    exact ⟨_, hσ, l, vs, rfl, .inl (sqL_of hl), by rw [rl.len]; exact k _ _ H h S .refl rfl⟩
  · rename_i ds hd
    obtain ⟨v, hσ, r⟩ := S.sl i _ hd
    obtain ⟨q, vs, rfl, h4, r4⟩ := rep_lst r
    exact ⟨_, hσ, q, vs, rfl, .inl (sqL_of h4), by rw [r4.len]; exact k _ _ H h S .refl rfl⟩
  · rename_i ds hd
    obtain ⟨v, hσ, r⟩ := S.sl i _ hd
    obtain ⟨q, vs, rfl, h4, r4⟩ := rep_tup r
    exact ⟨_, hσ, q, vs, rfl, .inr h4, by rw [r4.len]; exact k _ _ H h S .refl rfl⟩
  · exact h.elim⟩
def ixO (i : Nat) (t : DE) : DE := fun env q x => match env[i]? with
  | some (Sl.ow ds) => t env (fun e => match e with
    | .int n => ∃ z, atI ds n = some z ∧ q z
    | _ => False) x
  | some (Sl.va d) => t env (fun e => ixD d e q x) x
  | _ => False
theorem xe_ixO {i : Nat} {y1 : Str} {p1 : Pos} (ho : PE X (.Name y1 p1) (tVar i)) (hb : XE X Λ w b tb) (hs : PlainIx b := by exact fun _ _ => rfl) : XE X Λ w (.Subscript (.Name y1 p1) b pos) (ixO i tb) := ⟨fun hK => by
  obtain ⟨rb, pb, sb⟩ := hb.ex hK
  refine ⟨_, pe_ix ix_any ho pb hs, fun env W σ H Q q x S hx h k => ?_⟩
  rw [hK]
  unfold ixO at h
  split at h
  · rename_i ds hd
    obtain ⟨l, vs, hw, hσ, hl, rl, hm⟩ := own_at S hd
    refine ⟨_, hσ, sb env W σ H _ _ x S hx h fun d v H1 h1 S1 e1 r1 => ?_⟩
    cases d <;> first | exact h1.elim | skip
    obtain ⟨z, h1, h2⟩ := h1
    cases r1
    obtain ⟨v, hv, rv⟩ := (rl.up e1.vis).atI h1
    exact .inl ⟨l, vs, _, v, rfl, rfl, sqL_of (e1.own _ _ _ hw hl), hv, k _ _ H1 h2 S1 e1 rv⟩
  · rename_i d0 hd
    obtain ⟨v0, hσ, r0⟩ := S.sl i _ hd
    refine ⟨_, hσ, sb env W σ H _ _ x S hx h fun d v H1 h1 S1 e1 r1 => ?_⟩
    exact snd_ix env W σ H1 d0 d v0 v Q q x S1 (hx.on e1) (r0.up e1.vis) r1 h1 fun d3 v3 H3 h3 S3 e3 r3 => k d3 v3 H3 h3 S3 (e1.trans e3) r3
  · exact h.elim⟩
/-- xs == [], xs != [] -/
def nilO (i : Nat) (neg : Bool) : DE := fun env q _ => match env[i]? with
  | some (Sl.ow ds) => D.pys ds ≠ none ∧ (∀ x, D.pys ds = some x → SeqAt.shaped (.list x) = true) ∧ q (.bl (if neg then !ds.isEmpty else ds.isEmpty))
  | some (Sl.va (D.lst ds)) => D.pys ds ≠ none ∧ (∀ x, D.pys ds = some x → SeqAt.shaped (.list x) = true) ∧ q (.bl (if neg then !ds.isEmpty else ds.isEmpty))
  | _ => False
theorem eqv_nil {ds : List D} {x : List PyData} (h : D.pys ds = some x) : PyData.eqv (.list x) (.list []) = ds.isEmpty := by
  cases ds with
  | nil =>
    simp [D.pys] at h
    subst h
    simp [PyData.eqv, PyData.eqvAll]
  | cons d ds =>
    unfold D.pys at h
    split at h
    · cases h
      simp [PyData.eqv, PyData.eqvAll]
    · cases h
theorem shaped_nil : SeqAt.shaped (.list []) = true := shaped_list []
theorem xe_nilE {i : Nat} {y1 : Str} {p1 p2 : Pos} (hu : X.A.units + 64 < cLine) (ho : PE X (.Name y1 p1) (tVar i)) (hm : behindInMarks .Eq (.List [] p2) = false := by rfl) : XE X Λ w (.Compare (.Name y1 p1) [.Eq] [.List [] p2] pos) (nilO i false) ∧ XT X Λ w (.Compare (.Name y1 p1) [.Eq] [.List [] p2] pos) (dTest (nilO i false)) := by
  have key : X.K = Λ.B.K → Snd Λ w (tOp (rEqD X.K) (tVar i) (tLst tNil)) (nilO i false) := fun hK env W σ H Q q x S hx h k => by
    have fin : ∀ (v : V) (ds : List D), σ[i]? = some (some v) → Rep Λ.B H (.lst ds) v → D.pys ds ≠ none → (∀ x, D.pys ds = some x → SeqAt.shaped (.list x) = true) → q (.bl (if false then !ds.isEmpty else ds.isEmpty)) → tOp (rEqD X.K) (tVar i) (tLst tNil) σ H Q := fun v ds hσ rp h1 h2 h3 => by
      refine ⟨v, hσ, szr rfl, fun l hl => ?_⟩
      have s := same_new (o := .lst []) hl
      cases q1 : D.pys ds with
      | none => exact absurd q1 h1
      | some xs =>
        refine ⟨.list xs, .list [], ?_, .lst sqL_new .nil, h2 _ q1, shaped_nil, ?_⟩
        · rw [hK]
          exact (rp.up s).dp _ _ _ (by simp [D.py, q1])
        · rw [eqv_nil q1]
          exact k _ _ _ h3 (S.grow s) (.of s) rfl
    unfold nilO at h
    split at h
    · rename_i ds hd
      obtain ⟨l, vs, hw, hσ, hl, rl, hm⟩ := own_at S hd
      exact fin _ ds hσ ⟨l, vs, rfl, hl, rl.up hid_le⟩ h.1 h.2.1 h.2.2
    · rename_i ds hd
      obtain ⟨v, hσ, r⟩ := S.sl i _ hd
      exact fin v ds hσ (r.up hid_le) h.1 h.2.1 h.2.2
    · exact h.elim
  exact ⟨⟨fun hK => ⟨_, pe_cmpR (op_eqD hu) ho (pe_lst pa_nil) hm, key hK⟩⟩, ⟨fun hK => ⟨_, pt_cmpR (op_eqD hu) ho (pe_lst pa_nil) hm, snd_test (key hK)⟩⟩⟩
theorem xe_nilN {i : Nat} {y1 : Str} {p1 p2 : Pos} (hu : X.A.units + 64 < cLine) (ho : PE X (.Name y1 p1) (tVar i)) (hm : behindInMarks .NotEq (.List [] p2) = false := by rfl) : XE X Λ w (.Compare (.Name y1 p1) [.NotEq] [.List [] p2] pos) (nilO i true) ∧ XT X Λ w (.Compare (.Name y1 p1) [.NotEq] [.List [] p2] pos) (dTest (nilO i true)) := by
  have key : X.K = Λ.B.K → Snd Λ w (tOp (rNeD X.K) (tVar i) (tLst tNil)) (nilO i true) := fun hK env W σ H Q q x S hx h k => by
    have fin : ∀ (v : V) (ds : List D), σ[i]? = some (some v) → Rep Λ.B H (.lst ds) v → D.pys ds ≠ none → (∀ x, D.pys ds = some x → SeqAt.shaped (.list x) = true) → q (.bl (if true then !ds.isEmpty else ds.isEmpty)) → tOp (rNeD X.K) (tVar i) (tLst tNil) σ H Q := fun v ds hσ rp h1 h2 h3 => by
      refine ⟨v, hσ, szr rfl, fun l hl => ?_⟩
      have s := same_new (o := .lst []) hl
      cases q1 : D.pys ds with
      | none => exact absurd q1 h1
      | some xs =>
        refine ⟨.list xs, .list [], ?_, .lst sqL_new .nil, h2 _ q1, shaped_nil, ?_⟩
        · rw [hK]
          exact (rp.up s).dp _ _ _ (by simp [D.py, q1])
        · rw [eqv_nil q1]
          exact k _ _ _ h3 (S.grow s) (.of s) rfl
    unfold nilO at h
    split at h
    · rename_i ds hd
      obtain ⟨l, vs, hw, hσ, hl, rl, hm⟩ := own_at S hd
      exact fin _ ds hσ ⟨l, vs, rfl, hl, rl.up hid_le⟩ h.1 h.2.1 h.2.2
    · rename_i ds hd
      obtain ⟨v, hσ, r⟩ := S.sl i _ hd
      exact fin v ds hσ (r.up hid_le) h.1 h.2.1 h.2.2
    · exact h.elim
  exact ⟨⟨fun hK => ⟨_, pe_cmpR (op_neD hu) ho (pe_lst pa_nil) hm, key hK⟩⟩, ⟨fun hK => ⟨_, pt_cmpR (op_neD hu) ho (pe_lst pa_nil) hm, snd_test (key hK)⟩⟩⟩
/-! ### isinstance -/
/-- what isinstance wants to know of an own class -/
def InsOk (B : Tb) (c : Nat) : Prop := Cls B.K (B.C c) ∧ PySem.W.findIn B.K (.ref (B.C c)) "__class__" = some (some (.builtin "object.__class__")) ∧ PySem.W.specialIn B.K (.builtin "object.__class__") "__get__" = some (some (.builtin "getset_descriptor.__get__")) ∧ PySem.W.takesIn B.K (.builtin "object.__class__") = some true ∧ PySem.W.mroIn B.K (B.C c) (.type "object") = some true
/-- a built-in class -/
inductive BT where
  | int | bool | str | list | tuple
def BT.nm : BT → String
  | .int => "int" | .bool => "bool" | .str => "str" | .list => "list" | .tuple => "tuple"
/-- data of a built-in class, by its name -/
def D.bn : D → Option String
  | .non => some "NoneType"
  | .bl _ => some "bool"
  | .int _ => some "int"
  | .str _ => some "str"
  | .lst _ => some "list"
  | .tup _ => some "tuple"
  | _ => none
def isBT : BT → D → Bool
  | .int, .int _ => true
  | .int, .bl _ => true
  | .bool, .bl _ => true
  | .str, .str _ => true
  | .list, .lst _ => true
  | .tuple, .tup _ => true
  | _, _ => false
theorem isBT_ok {n : BT} {d : D} {m : String} (h : d.bn = some m) : kitB m n.nm = some (isBT n d) := by
  cases d <;> cases h <;> cases n <;> first | (show kitB _ _ = some true; decide +kernel) | (show kitB _ _ = some false; decide +kernel)
theorem rep_tyX {B : Tb} {H : Hp} {d : D} {v : V} {m : String} (r : Rep B H d v) (h : d.bn = some m) : TyX B.K H v (.type m) := by
  cases d <;> cases h
  · cases r; exact .base .non
  · cases r; exact .base (.bl _)
  · cases r; exact .base (.int _)
  · cases r; exact .base (.str _)
  · obtain ⟨a, vs, rfl, h1, h2⟩ := r
    exact .base (.lst h1)
  · obtain ⟨a, vs, rfl, h1, h2⟩ := r
    rcases h1 with (h1 | ⟨o, h1⟩) | ⟨o, its, n, h3, h4, _⟩
    · exact .base (.tup h1)
    · exact .fTuple h1
    · exact .kTuple h3 h4
theorem rep_tyO {B : Tb} {H : Hp} {c : Nat} {fs : List D} {v : V} (ok : InsOk B c) (r : Rep B H (.obj c fs) v) : TyX B.K H v (.ref (B.C c)) := by
  obtain ⟨a, dx, gs, rfl, h1, h2⟩ := r
  obtain ⟨c1, c2, c3, c4, c5⟩ := ok
  exact .base (.ins h1 c1 c2 c3 c4 c5)
/-- isinstance(x, int): cs: the own classes of which it is known -/
def isTD (n : BT) (cs : List Nat) (d : D) (q : D → Prop) : Prop := match d with
  | .obj c _ => c ∈ cs ∧ q (.bl false)
  | .ty _ => False
  | .cl _ => False
  | .dic _ _ => False
  | d => q (.bl (isBT n d))
def dIsT (n : BT) (cs : List Nat) (t : DE) : DE := fun env q x => t env (fun d => isTD n cs d q) x
theorem isT_ok {B : Tb} {H : Hp} {n : BT} {cs : List Nat} {d : D} {v : V} {q : D → Prop} (hc : ∀ c ∈ cs, InsOk B c ∧ PySem.W.kitOne B.K (.ref (B.C c)) (.type n.nm) = some false) (r : Rep B H d v) (h : isTD n cs d q) : ∃ t b, TyX B.K H v t ∧ PySem.W.kitOne B.K t (.type n.nm) = some b ∧ q (.bl b) := by
  cases d <;> first | exact h.elim | skip
  · exact ⟨_, _, rep_tyX r rfl, kit_ty (isBT_ok rfl), h⟩
  · exact ⟨_, _, rep_tyX r rfl, kit_ty (isBT_ok rfl), h⟩
  · exact ⟨_, _, rep_tyX r rfl, kit_ty (isBT_ok rfl), h⟩
  · exact ⟨_, _, rep_tyX r rfl, kit_ty (isBT_ok rfl), h⟩
  · exact ⟨_, _, rep_tyX r rfl, kit_ty (isBT_ok rfl), h⟩
  · exact ⟨_, _, rep_tyX r rfl, kit_ty (isBT_ok rfl), h⟩
  · obtain ⟨c1, c2⟩ := hc _ h.1
    exact ⟨_, _, rep_tyO c1 r, c2, h.2⟩
theorem xe_isT {n : BT} {cs : List Nat} {y1 : Str} {p1 : Pos} (hc : ∀ c ∈ cs, InsOk Λ.B c ∧ PySem.W.kitOne Λ.B.K (.ref (Λ.B.C c)) (.type n.nm) = some false) (hg : Gl X "isinstance") (hm : X.mg "isinstance" = none) (ha : XE X Λ w a t) (hT : PE X (.Name y1 p1) (tC (.ty n.nm)))
    (he : starEach [a, .Name y1 p1] X.env = (false, eval a X.env) :: starEach [.Name y1 p1] X.env := by rfl) (he2 : starEach [.Name y1 p1] X.env = (false, eval (.Name y1 p1) X.env) :: starEach [] X.env := by rfl) (hpl : (backTo pos (starEach [.Name y1 p1] X.env)).any (·.1) = false := by rfl) :
    XE X Λ w (.Call (.Name "isinstance" p) [a, .Name y1 p1] [] pos) (dIsT n cs t) := ⟨fun hK => by
  obtain ⟨r, p, s⟩ := ha.ex hK
  refine ⟨_, pe_callB call_isi hg hm bb_isinstance (pa_cons p (pa_cons hT pa_nil he2) he) (by decide) (by decide) he hpl, fun env W σ H Q q x S hx h k => s env W σ H _ _ x S hx h fun d v H1 h1 S1 e1 r1 => ?_⟩
  rw [hK]
  obtain ⟨t', b, h2, h3, h4⟩ := isT_ok hc (r1.up hid_le) h1
  exact ⟨v, _, t', _, b, rfl, .ty _, h2, h3, k _ _ H1 h4 S1 e1 rfl⟩⟩
/-- isinstance(x, C): sub: whether the own classes are of it -/
def isCD (sub : List (Nat × Bool)) (d : D) (q : D → Prop) : Prop := match d with
  | .obj c _ => match sub.lookup c with
    | some b => q (.bl b)
    | none => False
  | .ty _ => False
  | .cl _ => False
  | .dic _ _ => False
  | _ => q (.bl false)
def dIsC (sub : List (Nat × Bool)) (t : DE) : DE := fun env q x => t env (fun d => isCD sub d q) x
def NotOf (B : Tb) (c : Nat) : Prop := ∀ m ∈ ["NoneType", "bool", "int", "str", "list", "tuple"], PySem.W.kitOne B.K (.type m) (.ref (B.C c)) = some false
theorem xe_isC {cc : Nat} {sub : List (Nat × Bool)} {y1 : Str} {p1 : Pos} (hn : NotOf Λ.B cc) (hc : ∀ c b, sub.lookup c = some b → InsOk Λ.B c ∧ PySem.W.kitOne Λ.B.K (.ref (Λ.B.C c)) (.ref (Λ.B.C cc)) = some b) (hg : Gl X "isinstance") (hm : X.mg "isinstance" = none) (ha : XE X Λ w a t) (hT : PE X (.Name y1 p1) (tC (.ref (Λ.B.C cc))))
    (he : starEach [a, .Name y1 p1] X.env = (false, eval a X.env) :: starEach [.Name y1 p1] X.env := by rfl) (he2 : starEach [.Name y1 p1] X.env = (false, eval (.Name y1 p1) X.env) :: starEach [] X.env := by rfl) (hpl : (backTo pos (starEach [.Name y1 p1] X.env)).any (·.1) = false := by rfl) :
    XE X Λ w (.Call (.Name "isinstance" p) [a, .Name y1 p1] [] pos) (dIsC sub t) := ⟨fun hK => by
  obtain ⟨r, p, s⟩ := ha.ex hK
  refine ⟨_, pe_callB call_isi hg hm bb_isinstance (pa_cons p (pa_cons hT pa_nil he2) he) (by decide) (by decide) he hpl, fun env W σ H Q q x S hx h k => s env W σ H _ _ x S hx h fun d v H1 h1 S1 e1 r1 => ?_⟩
  rw [hK]
  have r2 := r1.up (hid_le (G := Λ.G W) (H := H1))
  have fin : ∀ m b, d.bn = some m → PySem.W.kitOne Λ.B.K (.type m) (.ref (Λ.B.C cc)) = some b → q (.bl b) → rIsi Λ.B.K [v, .ref (Λ.B.C cc)] H1 Q := fun m b h2 h3 h4 => ⟨v, _, _, _, b, rfl, .own _, rep_tyX r2 h2, h3, k _ _ H1 h4 S1 e1 rfl⟩
  cases d <;> first | exact h1.elim | skip
  · exact fin _ _ rfl (hn _ (by decide)) h1
  · exact fin _ _ rfl (hn _ (by decide)) h1
  · exact fin _ _ rfl (hn _ (by decide)) h1
  · exact fin _ _ rfl (hn _ (by decide)) h1
  · exact fin _ _ rfl (hn _ (by decide)) h1
  · exact fin _ _ rfl (hn _ (by decide)) h1
  · have h1 : (match sub.lookup _ with
      | some b => q (.bl b)
      | none => False) := h1
    split at h1
    · rename_i b hb
      obtain ⟨c1, c2⟩ := hc _ _ hb
      exact ⟨v, _, _, _, b, rfl, .own _, rep_tyO c1 r2, c2, k _ _ H1 h1 S1 e1 rfl⟩
    · exact h1.elim⟩
/-! ### texts -/
def fmtD : D → (Str → Prop) → Prop
  | .str y, q => y.length ≤ 100000 ∧ q y
  | .int i, q => i.natAbs.log2 < 1920 ∧ q (toString i)
  | _, _ => False
def dFmt (t : DE) : DE := fun env q x => t env (fun d => fmtD d fun y => q (.str y)) x
theorem xe_fmt (he : XE X Λ w a t) : XE X Λ w (.FormattedValue a (-1) none pos) (dFmt t) := ⟨fun hK => by
  obtain ⟨r, p, s⟩ := he.ex hK
  refine ⟨_, pe_fmt p, fun env W σ H Q q x S hx h k => s env W σ H _ _ x S hx h fun d v H1 h1 S1 e1 r1 => ?_⟩
  cases d <;> first | exact h1.elim | skip
  · cases r1
    exact .inr ⟨_, rfl, h1.1, k _ _ H1 h1.2 S1 e1 rfl⟩
  · cases r1
    exact .inl ⟨_, rfl, sz h1.1, k _ _ H1 h1.2 S1 e1 rfl⟩⟩
/-- the parts of an f-string -/
def dJs : List DE → Str → List Sl → (Str → Prop) → (DX → Prop) → Prop
  | [], acc, _, q, _ => q acc
  | t :: ts, acc, env, q, x => t env (fun d => match d with
    | .str y => (acc ++ y).length ≤ 100000 ∧ dJs ts (acc ++ y) env q x
    | _ => False) x
inductive XJ (X : Cx) (Λ : Lx) (w : WX) : List Expr → List DE → Prop where
  | nil : XJ X Λ w [] []
  | cons {e : Expr} {es : List Expr} {t : DE} {ts : List DE} : XE X Λ w e t → XJ X Λ w es ts → XJ X Λ w (e :: es) (t :: ts)
inductive SndJ (Λ : Lx) (w : WX) : List TE → List DE → Prop where
  | nil : SndJ Λ w [] []
  | cons {r : TE} {rs : List TE} {t : DE} {ts : List DE} : Snd Λ w r t → SndJ Λ w rs ts → SndJ Λ w (r :: rs) (t :: ts)
theorem XJ.pj {es : List Expr} {ts : List DE} (h : XJ X Λ w es ts) (hK : X.K = Λ.B.K) : ∃ rs, PJ X es rs ∧ SndJ Λ w rs ts := by
  induction h with
  | nil => exact ⟨[], .nil, .nil⟩
  | cons h _ ih =>
    obtain ⟨rs, p, s⟩ := ih
    obtain ⟨r, p1, s1⟩ := h.ex hK
    exact ⟨r :: rs, .cons p1 p, .cons s1 s⟩
theorem snd_js {rs : List TE} {ts : List DE} (h : SndJ Λ w rs ts) : ∀ (acc : Str) (env : List Sl) (W : Ow) (σ : L2.St) (H : Hp) (Q : Str → Hp → Prop) (q : Str → Prop) (x : DX → Prop), StOk Λ env W σ H → XOk Λ w env W σ H x → dJs ts acc env q x →
    (∀ y H', q y → StOk Λ env W σ H' → Ev Λ W H H' → Q y H') → tJs rs acc σ H Q := by
  induction h with
  | nil => exact fun acc env W σ H Q q x S hx h k => k acc H h S .refl
  | cons s _ ih =>
    intro acc env W σ H Q q x S hx h k
    refine s env W σ H _ _ x S hx h fun d v H1 h1 S1 e1 r1 => ?_
    cases d <;> first | exact h1.elim | skip
    cases r1
    exact ⟨_, rfl, sz h1.1, ih _ env W σ H1 Q q x S1 (hx.on e1) h1.2 fun y H' a b c => k y H' a b (e1.trans c)⟩
def dJoined (ts : List DE) : DE := fun env q x => dJs ts Str.empty env (fun y => q (.str y)) x
theorem xe_joined {v1 v2 : Expr} {rest : List Expr} {ts : List DE} (h : XJ X Λ w (v1 :: v2 :: rest) ts) : XE X Λ w (.JoinedStr (v1 :: v2 :: rest) pos) (dJoined ts) := ⟨fun hK => by
  obtain ⟨rs, p, s⟩ := h.pj hK
  exact ⟨_, pe_joined p, fun env W σ H Q q x S hx h k => snd_js s Str.empty env W σ H _ _ x S hx h fun y H' a b c => k _ _ H' a b c rfl⟩⟩
theorem xe_joined1 {v1 : Expr} (h : XE X Λ w v1 t) : XE X Λ w (.JoinedStr [v1] pos) t := ⟨fun hK => by
  obtain ⟨r, p, s⟩ := h.ex hK
  exact ⟨_, pe_joined1 p, s⟩⟩
/-- sep.join(texts) -/
def dJoin (ta tb : DE) : DE := fun env q x => ta env (fun d => match d with
  | .str s => tb env (fun e => ∃ ys : List Str, (e = .lst (ys.map .str) ∨ e = .tup (ys.map .str)) ∧ (ys.map (·.length)).sum + ys.length * s.length ≤ 100000 ∧ q (.str (Txt.join s ys))) x
  | _ => False) x
theorem xe_join (ho : XE X Λ w o ta) (he : XE X Λ w e tb) (hs : starEach [e] X.env = [(false, eval e X.env)] := by rfl) (hbase : attributeBase o "join" X.env (eval o X.env) = eval o X.env := by rfl) (hline : (apos.endLine == pos.line) = true := by rfl) : XE X Λ w (.Call (.Attribute o "join" apos) [e] [] pos) (dJoin ta tb) := ⟨fun hK => by
  obtain ⟨r, p, s⟩ := ho.ex hK
  obtain ⟨r', p', s'⟩ := he.ex hK
  refine ⟨_, pe_join p p' hs hbase hline, fun env W σ H Q q x S hx h k => s env W σ H _ _ x S hx h fun d v H1 h1 S1 e1 r1 => ?_⟩
  cases d <;> first | exact h1.elim | skip
  rename_i z
  cases r1
  refine ⟨⟨z, rfl⟩, s' env W σ H1 _ _ x S1 (hx.on e1) h1 fun d2 v2 H2 h2 S2 e2 r2 => ?_⟩
  obtain ⟨ys, hy, hz, h2⟩ := h2
  have hz' : (ys.map (·.length)).sum + ys.length * z.length ≤ 16777216 := Nat.le_trans hz (by decide)
  rw [hK]
  rcases hy with rfl | rfl
  · obtain ⟨l, vs, rfl, h4, r4⟩ := rep_lst r2
    cases r4.strs
    exact ⟨z, l, ys, rfl, rfl, .inl (sqL_of h4), hz', k _ _ H2 h2 S2 (e1.trans e2) rfl⟩
  · obtain ⟨l, vs, rfl, h4, r4⟩ := rep_tup r2
    cases r4.strs
    exact ⟨z, l, ys, rfl, rfl, .inr h4, hz', k _ _ H2 h2 S2 (e1.trans e2) rfl⟩⟩
end
end Eb

/-! ## own layer: making instances, comparing them, without a heap -/
namespace Eb
open PySem PySem.Spec PyProof.Rows L2 StX
section
variable {X : Cx} {Λ : Lx} {w : WX} {a b c e o : Expr} {es : List Expr} {ta tb tc t : DE} {tA tB : DT} {u : DA} {pos p apos : Pos} {k : Nat} {f : Addr} {fd : FuncData} {ps : List Str} {wp : DWI} {y : Str}
/-- the new instance's heap -/
theorem made_same {H : Hp} {x dx : Addr} {C : Addr} (hx : H x = none) (hdx : H dx = none) : Same H (upd (upd H dx (.own x)) x (.ins C dx [])) := fun q o h => by
  rw [upd_ne (ne_of_none h hx), upd_ne (ne_of_none h hdx)]
  exact h
theorem make_i {env : List Sl} {W : Ow} {σ : L2.St} {H : Hp} {Q : VK} {q : D → Prop} {E : XK} {ds : List D} {vs : List V} {cc : Nat} {x dx : Addr} (S : StOk Λ env W σ H) (r : RepL Λ.B (Λ.vis W H) ds vs) (h : wp ds (fun fs => q (.obj cc fs)) (fun _ => False))
    (k : ∀ d v H', q d → StOk Λ env W σ H' → Ev Λ W H H' → Rep Λ.B (Λ.vis W H') d v → Q v H') (hx : H x = none) (hdx : H dx = none) (hne : dx ≠ x) :
    spI0 Λ.B cc wp (.ref x :: vs) (upd (upd H dx (.own x)) x (.ins (Λ.B.C cc) dx [])) (fun v H2 => v = .non ∧ Q (.ref x) H2) E := by
  have s1 := made_same (C := Λ.B.C cc) hx hdx
  have nx : ¬ Λ.G W x := S.fresh hx
  refine ⟨Λ.G W, ds, _, x, dx, vs, rfl, upd_same, nx, fun a g => some_mono s1 (hG S a g), r.up ?_, h, fun fs H' dy gs hq grow hp hn rl => ⟨rfl, ?_⟩⟩
  · intro a o ha
    obtain ⟨g, ha⟩ := hid_some.mp ha
    have n : a ≠ x := ne_of_none ha hx
    exact hid_some.mpr ⟨fun z => z.elim g n, s1 _ _ ha⟩
  · have s2 : Same H H' := fun a o ha => grow a o (ne_of_none ha hx) (s1 _ _ ha)
    refine k _ _ H' hq (S.grow s2) (.of s2) ⟨x, dy, gs, rfl, hid_some.mpr ⟨nx, hp⟩, hn, rl.up (hid_anti fun a g => .inl g)⟩
def dMk (cc : Nat) (wp : DWI) (u : DA) : DE := fun env q x => u env (fun ds => wp ds (fun fs => q (.obj cc fs)) (fun _ => False)) x
theorem xe_make {cc : Nat} (M : Mk X.K (Λ.B.C cc) f) (F : FnOk X.prog X.w X.K X.mg X.base CX0 k f fd ps (spI0 Λ.B cc wp)) (hr : Room (k + 1) X.A) (hg : Gl X y) (hm : X.mg y = some (.ref (Λ.B.C cc))) (hb : Binds X.K fd ps []) (ha : XA X Λ w (e :: es) u) (hdb : (y == ("__debug__" : Str)) = false := by decide)
    (he : starEach (e :: es) X.env = (false, eval e X.env) :: starEach es X.env := by rfl) (hpl : (backTo pos (starEach es X.env)).any (·.1) = false := by rfl) : XE X Λ w (.Call (.Name y p) (e :: es) [] pos) (dMk cc wp u) := ⟨fun hK => by
  obtain ⟨r, p, s⟩ := ha.ex hK
  refine ⟨_, pe_make M F hr hg hm hb .nil pass0 p hdb he hpl, fun env W σ H Q q x S hx h k => s env W σ H _ _ x S hx h fun ds vs H1 h1 S1 e1 r1 x dx h2 h3 h4 => ?_⟩
  rw [List.append_nil]
  exact make_i S1 r1 h1 (fun d v H' a b c => k d v H' a b (e1.trans c)) h2 h3 h4⟩
/-! C(*y, over = v) and its like: the __init__'s parameters are self, the keyword, the star's tuple -/
abbrev spK (B : Tb) (cc : Nat) (wp : DWI) (dv : V) : List V → Option V → Hp → VK → XK → Prop := fun vs ov H Q E => ∃ a rest, vs = a :: rest ∧ rest.length ≤ sizeLine ∧ ∀ p, H p = Option.none → spI0 B cc wp [a, ov.getD dv, V.ref p] (upd H p (.tup rest)) Q E
theorem make_k {env : List Sl} {W : Ow} {σ : L2.St} {H : Hp} {Q : VK} {q : D → Prop} {E : XK} {ds : List D} {vs : List V} {cc : Nat} {dv : V} {ov : Option V} {od : D} (S : StOk Λ env W σ H) (r : RepL Λ.B (Λ.vis W H) ds vs) (ro : Rep Λ.B (Λ.vis W H) od (ov.getD dv)) (hl : ds.length ≤ 100000)
    (h : wp [od, .tup ds] (fun fs => q (.obj cc fs)) (fun _ => False)) (k : ∀ d v H', q d → StOk Λ env W σ H' → Ev Λ W H H' → Rep Λ.B (Λ.vis W H') d v → Q v H') : mkO (Λ.B.C cc) (spK Λ.B cc wp dv) E vs ov H Q := fun x dx hx hdx hne => by
  refine ⟨_, vs, rfl, by rw [r.len]; exact sz hl, fun p hp => ?_⟩
  have s1 := made_same (C := Λ.B.C cc) hx hdx
  have px : p ≠ x := fun z => by rw [z, upd_same] at hp; cases hp
  have hpH : H p = none := s1.free hp
  have s2 := same_new (o := .tup vs) hp
  have nx : ¬ Λ.G W x := S.fresh hx
  have np : ¬ Λ.G W p := S.fresh hpH
  have v1 : Same (Λ.vis W H) (hid (fun a => Λ.G W a ∨ a = x) (upd (upd (upd H dx (.own x)) x (.ins (Λ.B.C cc) dx [])) p (.tup vs))) := fun a o ha => by
    obtain ⟨g, ha⟩ := hid_some.mp ha
    have n : a ≠ x := ne_of_none ha hx
    exact hid_some.mpr ⟨fun z => z.elim g n, s2 _ _ (s1 _ _ ha)⟩
  refine ⟨Λ.G W, [od, .tup ds], _, x, dx, _, rfl, s2 _ _ upd_same, nx, fun a g => some_mono (s1.trans s2) (hG S a g), RepL.cons (ro.up v1) (RepL.cons (d := .tup ds) ⟨p, vs, rfl, sqT_of (hid_some.mpr ⟨fun z => z.elim np px, upd_same⟩), r.up v1⟩ RepL.nil), h, fun fs H' dy gs hq grow hp' hn rl => ⟨rfl, ?_⟩⟩
  have s3 : Same H H' := fun a o ha => grow a o (ne_of_none ha hx) (s2 _ _ (s1 _ _ ha))
  exact k _ _ H' hq (S.grow s3) (.of s3) ⟨x, dy, gs, rfl, hid_some.mpr ⟨nx, hp'⟩, hn, rl.up (hid_anti fun a g => .inl g)⟩
/-- C(e, ..): u gives the star's items; od the keyword's default -/
def dMkK (cc : Nat) (wp : DWI) (od : D) (u : DA) : DE := fun env q x => u env (fun ds => ds.length ≤ 100000 ∧ wp [od, .tup ds] (fun fs => q (.obj cc fs)) (fun _ => False)) x
def dMkKk (cc : Nat) (wp : DWI) (u : DA) (t : DE) : DE := fun env q x => u env (fun ds => t env (fun od => ds.length ≤ 100000 ∧ wp [od, .tup ds] (fun fs => q (.obj cc fs)) (fun _ => False)) x) x
def dMkKs (cc : Nat) (wp : DWI) (s t : DE) : DE := fun env q x => s env (fun d => t env (fun od => match d with
  | .lst ds => ds.length ≤ 100000 ∧ wp [od, .tup ds] (fun fs => q (.obj cc fs)) (fun _ => False)
  | .tup ds => ds.length ≤ 100000 ∧ wp [od, .tup ds] (fun fs => q (.obj cc fs)) (fun _ => False)
  | _ => False) x) x
variable {kn : Str} {dv : V} {kws : List Keyword}
theorem xe_mkK {cc : Nat} {od : D} (rd : ∀ H, Rep Λ.B H od dv) (M : Mk X.K (Λ.B.C cc) f) (F : FnK X.prog X.w X.K X.mg X.base CX0 k f kn (spK Λ.B cc wp dv)) (hr : Room (k + 1) X.A) (hg : Gl X y) (hm : X.mg y = some (.ref (Λ.B.C cc))) (ha : XA X Λ w (e :: es) u) (hdb : (y == ("__debug__" : Str)) = false := by decide)
    (he : starEach (e :: es) X.env = (false, eval e X.env) :: starEach es X.env := by rfl) (hpl : (backTo pos (starEach es X.env)).any (·.1) = false := by rfl) : XE X Λ w (.Call (.Name y p) (e :: es) [] pos) (dMkK cc wp od u) := ⟨fun hK => by
  obtain ⟨r, p, s⟩ := ha.ex hK
  refine ⟨_, pe_mkO M F hr hg hm pass0 p hdb he hpl, fun env W σ H Q q x S hx h k => s env W σ H _ _ x S hx h fun ds vs H1 h1 S1 e1 r1 => ?_⟩
  exact make_k S1 r1 (rd _) h1.1 h1.2 fun d v H' a b c => k d v H' a b (e1.trans c)⟩
theorem xe_mkK0 {cc : Nat} {od : D} (rd : ∀ H, Rep Λ.B H od dv) (M : Mk X.K (Λ.B.C cc) f) (F : FnK X.prog X.w X.K X.mg X.base CX0 k f kn (spK Λ.B cc wp dv)) (hr : Room (k + 1) X.A) (hg : Gl X y) (hm : X.mg y = some (.ref (Λ.B.C cc))) (hdb : (y == ("__debug__" : Str)) = false := by decide) : XE X Λ w (.Call (.Name y p) [] [] pos) (dMkK cc wp od dNil) := ⟨fun hK => by
  refine ⟨_, pe_mkO0 M F hr hg hm pass0 hdb, fun env W σ H Q q x S hx h k => ?_⟩
  exact make_k (E := E0) (ds := []) S RepL.nil (rd _) h.1 h.2 k⟩
variable {nm : Option Str} {kpos p2 : Pos} {v1 s1 : Expr}
theorem xe_mkKk {cc : Nat} (M : Mk X.K (Λ.B.C cc) f) (F : FnK X.prog X.w X.K X.mg X.base CX0 k f kn (spK Λ.B cc wp dv)) (hr : Room (k + 1) X.A) (hg : Gl X y) (hm : X.mg y = some (.ref (Λ.B.C cc))) (ha : XA X Λ w (e :: es) u) (hkw : XE X Λ w v1 t)
    (hall : (backToKw pos (keywordEach [⟨nm, v1, kpos⟩] X.env)).all (·.1.isSome) = true := by rfl) (hks : (backToKw pos (keywordEach [⟨nm, v1, kpos⟩] X.env)).filterMap (·.1) = [kn] := by rfl) (hdb : (y == ("__debug__" : Str)) = false := by decide)
    (he : starEach (e :: es) X.env = (false, eval e X.env) :: starEach es X.env := by rfl) (hpl : ((backTo pos (starEach (e :: es) X.env)).any (·.1) || (backToKw pos (keywordEach [⟨nm, v1, kpos⟩] X.env)).any (·.1.isNone)) = false := by rfl) :
    XE X Λ w (.Call (.Name y p) (e :: es) [⟨nm, v1, kpos⟩] pos) (dMkKk cc wp u t) := ⟨fun hK => by
  obtain ⟨r, p, s⟩ := ha.ex hK
  obtain ⟨r', p', s'⟩ := hkw.ex hK
  refine ⟨_, pe_mkOk M F hr hg hm pass0 p (pk_cons p' pk_nil) hall hks hdb he hpl, fun env W σ H Q q x S hx h k => s env W σ H _ _ x S hx h fun ds vs H1 h1 S1 e1 r1 => s' env W σ H1 _ _ x S1 (hx.on e1) h1 fun od v H2 h2 S2 e2 r2 => ?_⟩
  exact ⟨v, rfl, make_k S2 (r1.up e2.vis) r2 h2.1 h2.2 fun d v H' a b c => k d v H' a b ((e1.trans e2).trans c)⟩⟩
theorem xe_mkKk0 {cc : Nat} (M : Mk X.K (Λ.B.C cc) f) (F : FnK X.prog X.w X.K X.mg X.base CX0 k f kn (spK Λ.B cc wp dv)) (hr : Room (k + 1) X.A) (hg : Gl X y) (hm : X.mg y = some (.ref (Λ.B.C cc))) (hkw : XE X Λ w v1 t)
    (hall : (backToKw pos (keywordEach [⟨nm, v1, kpos⟩] X.env)).all (·.1.isSome) = true := by rfl) (hks : (backToKw pos (keywordEach [⟨nm, v1, kpos⟩] X.env)).filterMap (·.1) = [kn] := by rfl) (hdb : (y == ("__debug__" : Str)) = false := by decide)
    (hpl : ((backTo pos (starEach [] X.env)).any (·.1) || (backToKw pos (keywordEach [⟨nm, v1, kpos⟩] X.env)).any (·.1.isNone)) = false := by rfl) :
    XE X Λ w (.Call (.Name y p) [] [⟨nm, v1, kpos⟩] pos) (dMkKk cc wp dNil t) := ⟨fun hK => by
  obtain ⟨r', p', s'⟩ := hkw.ex hK
  refine ⟨_, pe_mkOk0 M F hr hg hm pass0 (pk_cons p' pk_nil) hall hks hdb hpl, fun env W σ H Q q x S hx h k => s' env W σ H _ _ x S hx h fun od v H2 h2 S2 e2 r2 => ?_⟩
  exact ⟨v, rfl, make_k (ds := []) S2 RepL.nil r2 h2.1 h2.2 fun d v H' a b c => k d v H' a b (e2.trans c)⟩⟩
theorem xe_mkKs {cc : Nat} (M : Mk X.K (Λ.B.C cc) f) (F : FnK X.prog X.w X.K X.mg X.base CX0 k f kn (spK Λ.B cc wp dv)) (hr : Room (k + 1) X.A) (hg : Gl X y) (hm : X.mg y = some (.ref (Λ.B.C cc))) (hy : XE X Λ w s1 ta) (hkw : XE X Λ w v1 t)
    (hall : (backToKw pos (keywordEach [⟨nm, v1, kpos⟩] X.env)).all (·.1.isSome) = true := by rfl) (hks : (backToKw pos (keywordEach [⟨nm, v1, kpos⟩] X.env)).filterMap (·.1) = [kn] := by rfl) (hdb : (y == ("__debug__" : Str)) = false := by decide)
    (hst : starEach [.Starred s1 p2] X.env = [(true, eval s1 X.env)] := by rfl) : XE X Λ w (.Call (.Name y p) [.Starred s1 p2] [⟨nm, v1, kpos⟩] pos) (dMkKs cc wp ta t) := ⟨fun hK => by
  obtain ⟨r, p, s⟩ := hy.ex hK
  obtain ⟨r', p', s'⟩ := hkw.ex hK
  refine ⟨_, pe_mkOs M F hr hg hm pass0 p (pk_cons p' pk_nil) hall hks hdb hst, fun env W σ H Q q x S hx h k => s env W σ H _ _ x S hx h fun d1 v1 H1 h1 S1 e1 r1 => s' env W σ H1 _ _ x S1 (hx.on e1) h1 fun od v H2 h2 S2 e2 r2 => ?_⟩
  have r1 := r1.up e2.vis
  rw [hK]
  cases d1 <;> first | exact h2.elim | skip
  · obtain ⟨l, vs, rfl, h4, r4⟩ := rep_lst r1
    exact ⟨l, vs, v, rfl, .inr (sqL_of h4), rfl, make_k S2 r4 r2 h2.1 h2.2 fun d v H' a b c => k d v H' a b ((e1.trans e2).trans c)⟩
  · obtain ⟨l, vs, rfl, h4, r4⟩ := rep_tup r1
    exact ⟨l, vs, v, rfl, .inl h4, rfl, make_k S2 r4 r2 h2.1 h2.2 fun d v H' a b c => k d v H' a b ((e1.trans e2).trans c)⟩⟩
/-! ### the promise of such an __init__ -/
theorem fnK0 {P : Program} {w' : World} {K : PySem.W.Frag} {mg : Str → Option Value} {base : Heap} {name qual : Str} {params : Arguments} {body : List Stmt} {scope : Scope} {doc pm cdv ct oc : Value} {an od : Option Addr} {Dk : Addr} {osl : Array (Option Value)} {N : List Str} {p1 kn pn : Str} {du : Value} {dv : V} {B : Tb} {f : Addr} {k : Nat}
    (lk : K.lookup f = some ⟨oc, od, .func (PySem.W.fnOf name qual params body scope .none (.ref Dk) doc pm an cdv ct), osl⟩) (hcd : PySem.W.codeIn K cdv qual = true) (S : FnScope N [p1, kn, pn] scope) (hD : PySem.W.nsIn K Dk kn = some (some du)) (rd : RelV dv du)
    (hb1 : ∀ (a o : Value) (rest : List Value), bindArgs (PySem.W.fnOf name qual params body scope .none (.ref Dk) doc pm an cdv ct) ⟨a :: rest, [(kn, o)]⟩ = (newTuple rest >>= fun t => pure [(p1, a), (kn, o), (pn, t)]))
    (hb0 : ∀ (a : Value) (rest : List Value), KwTup Dk kn du rest (bindArgs (PySem.W.fnOf name qual params body scope .none (.ref Dk) doc pm an cdv ct) ⟨a :: rest, []⟩) (fun t => [(p1, a), (kn, du), (pn, t)]))
    {t : DS} {cc nf m : Nat} (hN : N.length = 2 + 1 + m) (hK : K = B.K) (hfl : (B.fl cc).length = nf)
    (hbody : ∀ (A : Around) (outer : List Env) (s : Shared) (H : Hp) (E : XK) (Z M : Addr → Prop) (H0 : Hp) (dl : Option (Addr × Addr)), Room k (A.deeper (envOfC qual scope s.heap.objs.size f cdv)) →
      XSs (cxOf CX0 P w' K mg base N qual scope f cdv A outer s H E).nox ⟨B, Z, M, H0, dl⟩ w0 body t) : FnK P w' K mg base CX0 (k + 1) f kn (spK B cc (wpOfI cc nf 2 m t) dv) := by
  refine fn_ko lk hcd S ?_ hD rd hb1 hb0 fun A outer s H vs Q E hr ⟨Z, ds, q, p, dx, vr, e, hp, hz, hZ, r, ⟨hl, ht⟩, kq⟩ => ?_
  · exact fun _ _ _ _ _ _ _ _ _ _ _ h => h.elim
  · subst e
    obtain ⟨ts, h1, h2⟩ := run_body (hbody A outer s H E Z (fun a => a = p) H none hr) hK (st_startI hp hz hZ r (by rw [hl]; exact hN)) (initL hp hfl kq) ht
    exact ⟨ts, h1.nox, h2⟩
end
end Eb
namespace Eb
open PySem PySem.Spec PyProof.Rows L2 StX
section
variable {X : Cx} {Λ : Lx} {w : WX} {k : Nat} {f : Addr} {fd : FuncData} {ps : List Str} {wp : DW} {CX : CXT} {sp : Sp}
theorem raw0 {P : Program} {w' : World} {K : PySem.W.Frag} {mg : Str → Option Value} {base : Heap} (F : FnOk P w' K mg base CX k f fd ps sp) (hb : L2.Binds K fd ps []) : FnR P w' K mg base CX k f sp := by
  have h := F.raw hb (Paired.nil)
  have e : (fun vs H Q E => sp (vs ++ []) H Q E) = sp := by
    funext vs
    rw [List.append_nil]
  rw [e] at h
  exact h
/-- an own operator, an instance or an int on the right -/
def opAD (c : Nat) (wp : DW) : D → D → DK := fun d e q _ => match d, e with
  | .obj c1 f1, .obj c2 f2 => c1 = c ∧ c2 = c ∧ wp [.obj c1 f1, .obj c2 f2] q (fun _ => False)
  | .obj c1 f1, .int i => c1 = c ∧ wp [.obj c1 f1, .int i] q (fun _ => False)
  | _, _ => False
theorem snd_opA {c : Nat} {E : XK} : SndR Λ w (fun x y H Q => rB2 (Λ.B.C c) (spF0 Λ.B wp) E x y H Q ∨ rBI (Λ.B.C c) (spF0 Λ.B wp) E x y H Q) (opAD c wp) := fun env W σ H d e v u Q q x S hx r1 r2 h k => by
  cases d <;> cases e <;> first | exact h.elim | skip
  · exact .inr (snd_opI env W σ H _ _ v u Q q x S hx r1 r2 h k)
  · exact .inl (snd_op2 env W σ H _ _ v u Q q x S hx r1 r2 h k)
end
end Eb

/-! ### the law itself; repr of plain values; x += n -/
namespace Eb
open PySem PySem.Spec PyProof.Rows L2 StX
def sp_law (K : PySem.W.Frag) : Sp := fun vs H Q _ => ∃ (a : Addr) (ns : List Int), vs = [V.ref a] ∧ SqL K H a (ns.map V.int) ∧ ns.length ≤ 63 ∧ ∀ H', Q (.bl true) H'
/-- the source of draws: new -/
def sp_dealer (K : PySem.W.Frag) : Sp := fun vs H Q _ => ∃ (a : Addr) (ns : List Int) (k : Int), vs = [V.ref a, .int k] ∧ SqL K H a (ns.map V.int) ∧ ns.length ≤ 63 ∧ 0 ≤ k ∧ k ≤ 1000 ∧ ∀ d l H', Same H H' → H d = none → H l = none → Deal H' d l → Q (.ref d) H'
section
variable {X : Cx} {B : Tb} {N : List Str} {first : Stmt} {rest : List Stmt} {t : DS} {kk : Int} {K : PySem.W.Frag} {H : Hp} {a : Addr} {ns : List Int} {Q : VK} {env : List Sl} {i : Nat}
theorem law_body (h1 : PS X first (tAsg (tCall (sp_dealer K) [] E0 (tCons (tVar 0) (tCons (tC (.int kk)) tNil))) (gName i))) (h2 : ∀ (Z M : Addr → Prop) (H0 : Hp) (dl : Option (Addr × Addr)), XSs X ⟨B, Z, M, H0, dl⟩ w0 rest t) (hK : X.K = B.K) (hs : SqL K H a (ns.map V.int)) (hn : ns.length ≤ 63)
    (k0 : 0 ≤ kk) (k1 : kk ≤ 1000) (he : env = (List.replicate N.length Sl.un).set i .dl) (hi : 1 ≤ N.length ∧ 0 < i) (hw : t env (endsF (fun d => d = .bl true) (fun _ => False))) (q : ∀ H', Q (.bl true) H') :
    ∃ ts, PSs X (first :: rest) ts ∧ ts { nx := fun _ H' => Q .non H', rt := Q } (L2.start N [.ref a]) H := by
  subst he
  obtain ⟨r, p, s⟩ : ∃ r, PSs X rest r ∧ ∀ (d l : Addr) (H' : Hp), Deal H' d l → r { nx := fun _ H' => Q .non H', rt := Q } ((L2.start N [.ref a]).set i (some (.ref d))) H' := by
    refine ⟨fun D σ H' => ∃ (d l : Addr), Deal H' d l ∧ D = { nx := fun _ H' => Q .non H', rt := Q } ∧ σ = (L2.start N [.ref a]).set i (some (.ref d)), ⟨fun pins s σ H' D I ⟨d, l, D0, eD, eσ⟩ => ?_⟩, fun d l H' D0 => ⟨d, l, D0, rfl, rfl⟩⟩
    subst eD eσ
    have S0 : StOk ⟨B, fun _ => False, fun x => x = d ∨ x = l, H', some (d, l)⟩ ((List.replicate N.length Sl.un).set i .dl) (fun _ => none) ((L2.start N [.ref a]).set i (some (.ref d))) H' := by
      refine ⟨by rw [List.length_set, List.length_set, List.length_replicate, start_len (by simpa using hi.1)], fun j sl e => ?_, fun a o _ h => h, fun a m => ?_, fun a z => z.elim, (fun i p e => by cases e), (fun i j p e => by cases e), fun d' l' e => ?_, ⟨0, fun _ _ => rfl⟩⟩
      · by_cases c : j = i
        · subst c
          have hj : j < (List.replicate N.length Sl.un).length := by
            have := (List.getElem?_eq_some_iff.mp e).1
            rwa [List.length_set] at this
          rw [List.getElem?_set_self hj] at e
          cases e
          refine ⟨d, l, rfl, List.getElem?_set_self ?_⟩
          rw [start_len (by simpa using hi.1)]
          simpa using hj
        · rw [List.getElem?_set_ne (Ne.symm c)] at e
          obtain ⟨h3, e⟩ := List.getElem?_eq_some_iff.mp e
          rw [List.getElem_replicate] at e
          subst e
          trivial
      · rcases m with rfl | rfl
        · exact D0.none _ (by simp)
        · exact D0.none _ (by simp)
      · cases e
        exact ⟨D0, .inl rfl, .inr rfl, fun i => ⟨by simp, by simp⟩⟩
    have L0 : Lnk ⟨B, fun _ => False, fun x => x = d ∨ x = l, H', some (d, l)⟩ w0 (fun _ => none) H' { nx := fun _ H' => Q .non H', rt := Q } (endsF (fun d => d = .bl true) (fun _ => False)) := by
      refine ⟨fun _ _ _ _ z => ?_, fun _ _ _ _ z => z.elim, fun _ _ _ _ z => z.elim, fun dd v env' W' σ' H2 z S' rp => ?_, fun _ _ _ _ _ _ _ z => z.elim⟩
      · have z : D.non = D.bl true := z
        cases z
      · have z : dd = .bl true := z
        subst z
        cases (show v = .bl true from rp)
        exact q _
    obtain ⟨ts, p1, s1⟩ := run_body (h2 (fun _ => False) (fun x => x = d ∨ x = l) H' (some (d, l))) hK S0 L0 hw
    exact p1.run pins s _ H' _ I s1
  refine ⟨_, pss_cons h1 p, ?_⟩
  refine ⟨.ref a, start_get (vs := [.ref a]) (i := 0) (by simp), ?_⟩
  exact ⟨a, ns, kk, rfl, hs, hn, k0, k1, fun d l H' _ _ _ D0 => s d l H' D0⟩
end
/-- a draw, without a heap -/
theorem draw_g {P : Program} {w' : World} {K : PySem.W.Frag} {mg : Str → Option Value} {base : Heap} {k : Nat} {f : Addr} {fd : FuncData} {ps : List Str} {B : Tb} {sp : Sp}
    (hsp : sp = fun vs H Q _ => ∃ (d l : Addr) (n : Int), vs = [V.ref d, .int n] ∧ Deal H d l ∧ 0 < n ∧ Sm n ∧ ∀ r H', 0 ≤ r → r < n → Drew d l H H' → Q (.int r) H') (hl : ps.length = 2) (F : FnOk P w' K mg base CX0 k f fd ps sp) : FnOk P w' K mg base CX0 k f fd ps (spG0 B wpDraw) := by
  have imp : ∀ vs H Q E, spG0 B wpDraw vs H Q E → sp vs H Q E := fun vs H Q E ⟨Z, ds, q, d, l, vr, e, D0, hZ, r, h, kq⟩ => by
    subst hsp e
    unfold wpDraw at h
    split at h
    · obtain ⟨v, rfl, r1⟩ := r.one_inv
      cases r1
      exact ⟨d, l, _, rfl, D0, h.1, h.2.1, fun r' H' a b c => kq _ _ H' (h.2.2 r' a b) c rfl⟩
    · exact h.elim
  exact ⟨fun vs H Q E h => F.len vs H Q E (imp vs H Q E h), fun A outer s H args us vs Q E hr e0 hb r hs => F.run A outer s H args us vs Q E hr e0 hb r (imp vs H Q E hs)⟩
section
variable {X : Cx} {Λ : Lx} {w : WX} {a b : Expr} {t : DE} {pos : Pos}
/-! repr of a plain value -/
def rReprS : List V → Hp → VK → Prop := fun xs H Q => ∃ x d, xs = [x] ∧ ((x = .non ∧ d = PyData.none) ∨ (∃ b, x = .bl b ∧ d = .bool b) ∨ ∃ i : Int, x = .int i ∧ d = .int i ∧ i.natAbs.log2 < 1920) ∧ Q (.str d.shown) H
theorem call_reprS : CallR X (.builtin "repr") rReprS := by
  intro pins s σ H xs us Q I r h
  obtain ⟨x, d, rfl, h, q⟩ := h
  obtain ⟨u, rfl, rx⟩ := vals1 r
  rcases h with ⟨rfl, rfl⟩ | ⟨b, rfl, rfl⟩ | ⟨i, rfl, rfl, hz⟩
  · cases rx
    exact PySem.P.repr_of_none ⟨.str _, H, I.tok _, ⟨_, rfl⟩, by simpa only [PyData.shown] using q⟩
  · cases rx
    exact PySem.P.repr_of_bool ⟨.str _, H, I.tok _, ⟨_, rfl⟩, by simpa only [PyData.shown] using q⟩
  · obtain ⟨t, rfl⟩ := rx
    exact PySem.P.repr_of_int hz ⟨.str _, H, I.tok _, ⟨_, rfl⟩, by simpa only [PyData.shown] using q⟩
def reprS : List D → DK := fun ds q _ => match ds with
  | [.non] => q (.str (PyData.shown .none))
  | [.bl b] => q (.str (PyData.shown (.bool b)))
  | [.int i] => i.natAbs.log2 < 1920 ∧ q (.str (PyData.shown (.int i)))
  | _ => False
theorem snd_reprS : SndC Λ w rReprS reprS := fun env W σ H ds vs Q q x S hx r h k => by
  unfold reprS at h
  split at h
  · obtain ⟨v, rfl, r1⟩ := r.one_inv
    cases r1
    exact ⟨_, _, rfl, .inl ⟨rfl, rfl⟩, k _ _ H h S .refl rfl⟩
  · obtain ⟨v, rfl, r1⟩ := r.one_inv
    cases r1
    exact ⟨_, _, rfl, .inr (.inl ⟨_, rfl, rfl⟩), k _ _ H h S .refl rfl⟩
  · obtain ⟨v, rfl, r1⟩ := r.one_inv
    cases r1
    exact ⟨_, _, rfl, .inr (.inr ⟨_, rfl, rfl, h.1⟩), k _ _ H h.2 S .refl rfl⟩
  · exact h.elim
/-- x += n, x an int -/
def dAugI (i : Nat) (f : Int → Int → Int) (t : DE) : DS := fun env e => match env[i]? with
  | some (.va (.int n)) => t env (fun d => match d with
    | .int m => e.nx (env.set i (.va (.int (f n m))))
    | _ => False) (e.ex env)
  | _ => False
theorem xs_augI {i : Nat} {y : Str} {op : Operator} {f : Int → Int → Int} {p : Pos} (hN : X.N.Nodup) (hi : X.N[i]? = some y) (hx : Loc X.env.scope y) (he : XE X Λ w a t) (ho : PIp X op (ipI f)) (hf : X.fn y = true ∨ X.env.scope.names.lookup y = some .local := by first | exact .inl rfl | exact .inr rfl | assumption) :
    XS X Λ w (.AugAssign (.Name y p) op a pos) (dAugI i f t) := ⟨fun hK => by
  obtain ⟨r, pp, s⟩ := he.ex hK
  refine ⟨_, ps_aug hN hi hx pp ho hf, fun env W σ H E e S L h => ?_⟩
  unfold dAugI at h
  split at h
  · rename_i n hd
    obtain ⟨v, hσ, rv⟩ := S.sl i _ hd
    cases rv
    refine ⟨_, hσ, s env W σ H _ _ _ S L.xok h fun d v H1 h1 S1 e1 r1 => ?_⟩
    cases d <;> first | exact h1.elim | skip
    cases r1
    exact ⟨_, _, rfl, rfl, L.nx _ _ _ _ h1 (S1.put (i := i) (d := .int _) rfl) e1.vis⟩
  · exact h.elim⟩
end
end Eb

/-! ## own layer: starred displays, properties, str(x) of own instances, without a heap -/
namespace Eb
open PySem PySem.Spec PyProof.Rows L2 StX
section
variable {X : Cx} {Λ : Lx} {w : WX} {a b c e o : Expr} {es : List Expr} {ta tb tc t : DE} {u : DA} {pos p apos : Pos} {k : Nat} {f : Addr} {fd : FuncData} {ps : List Str} {wp : DW} {y : Str}
/-- *e, .. -/
def dStar (t : DE) (u : DA) : DA := fun env q x => t env (fun d => match d with
  | .lst ds => u env (fun es => q (ds ++ es)) x
  | .tup ds => u env (fun es => q (ds ++ es)) x
  | _ => False) x
theorem xa_star (ha : XE X Λ w a t) (hb : XA X Λ w es u) (hs : starEach (.Starred a p :: es) X.env = (true, eval a X.env) :: starEach es X.env := by rfl) : XA X Λ w (.Starred a p :: es) (dStar t u) := ⟨fun hK => by
  obtain ⟨ra, pa, sa⟩ := ha.ex hK
  obtain ⟨rb, pb, sb⟩ := hb.ex hK
  refine ⟨_, pa_star pa pb hs, fun env W σ H Q q x S hx h k => sa env W σ H _ _ x S hx h fun d v H1 h1 S1 e1 r1 => ?_⟩
  cases d <;> first | exact h1.elim | skip
  · obtain ⟨p, vs, rfl, h3, r3⟩ := rep_lst r1
    exact ⟨p, vs, rfl, .inr (.of h3), sb env W σ H1 _ _ x S1 (hx.on e1) h1 fun ds us H2 h2 S2 e2 r2 => k _ _ H2 h2 S2 (e1.trans e2) ((r3.up e2.vis).app r2)⟩
  · obtain ⟨p, vs, rfl, h3, r3⟩ := rep_tup r1
    exact ⟨p, vs, rfl, .inl (hK ▸ h3), sb env W σ H1 _ _ x S1 (hx.on e1) h1 fun ds us H2 h2 S2 e2 r2 => k _ _ H2 h2 S2 (e1.trans e2) ((r3.up e2.vis).app r2)⟩⟩
/-- e.m, a property -/
theorem xe_prop {cc : Nat} {m : Str} {pa g : Addr} (he : XE X Λ w e t) (cl : Cls X.K (Λ.B.C cc)) (hp : ∃ pa, PropOf X.K (Λ.B.C cc) m pa g) (F : FnOk X.prog X.w X.K X.mg X.base CX0 k g fd ps (spF0 Λ.B wp)) (hr : Room (k + 1) X.A) (hb : Binds X.K fd ps [])
    (hab : attributeBase e m X.env (eval e X.env) = eval e X.env := by rfl) : XE X Λ w (.Attribute e m pos) (dM0 cc wp t dNil) := ⟨fun hK => by
  obtain ⟨pa, hp⟩ := hp
  obtain ⟨r, p, s⟩ := he.ex hK
  refine ⟨_, pe_prop p cl hp F hr hb .nil pass0 hab, fun env W σ H Q q x S hx h k => s env W σ H _ _ x S hx h fun d v H1 h1 S1 e1 r1 => ?_⟩
  cases d <;> first | exact h1.elim | skip
  rename_i c' fs
  obtain ⟨rfl, h1⟩ := h1
  obtain ⟨a, dx, gs, rfl, hg, en, rl⟩ := id r1
  refine ⟨a, dx, gs, rfl, hid_le _ _ hg, ?_⟩
  exact call0 (E := E0) (ds := [.obj c' fs]) (vs := [.ref a]) S1 (RepL.cons r1 RepL.nil) h1 fun d v H' a b c => k d v H' a b (e1.trans c)⟩
/-- str(x) of an own instance -/
def rStrOwn (C : Addr) (sp : Sp) (E : XK) : List V → Hp → VK → Prop := fun xs H Q => ∃ a, xs = [V.ref a] ∧ InsO H a C ∧ sp [.ref a] H (fun z H' => ∃ i, z = .str i ∧ Q z H') E
theorem call_strOwn {CX : CXT} {n : Nat} {C g : Addr} {sp : Sp} {E : XK} (hs : PySem.W.findIn X.K (.ref C) "__str__" = some (some (.ref g))) (hf : PySem.W.isFn X.K (.ref g) = true) (F : FnR X.prog X.w X.K X.mg X.base CX n g sp) (hr : Room (n + 2) X.A) (hu : X.A.units + 64 < cLine) (hx : Passes CX X E) : CallR X (.type "str") (rStrOwn C sp E) := by
  intro pins s σ H xs us Q I r h
  obtain ⟨a, rfl, hsl, q⟩ := h
  obtain ⟨u, rfl, ru⟩ := r.one
  cases (show u = Value.ref a from ru)
  obtain ⟨ox, od, J⟩ := insO_at I hsl
  have hr2 : Room n X.A.in1.in1 := (show Room (n + 1) X.A.in1 from Room.in1 hr).in1
  refine PySem.W.kso_call (by simp only [Around.in1_units]; omega) I.kIn J hs hf (wpAny_mono (wpAny_call (SlX.run_at (us := [.ref a]) (ws := [.ref a]) F hr2 I.env0.in1.in1 hx I (.cons rfl .nil) q)) (fun w s' z => ?_) fun _ _ x => x)
  obtain ⟨z', H', I', rz, i, ei, qz⟩ := z
  subst ei
  obtain ⟨t, e⟩ := (show ∃ t, w = Value.str i t from rz)
  cases e
  exact ⟨.str i, H', I', ⟨t, rfl⟩, qz⟩
def strOD (c : Nat) (wp : DW) : List D → DK := fun ds q _ => match ds with
  | [.obj c' fs] => c' = c ∧ wp [.obj c' fs] (fun z => match z with
    | .str i => q (.str i)
    | _ => False) (fun _ => False)
  | _ => False
theorem snd_strO {cc : Nat} {E : XK} : SndC Λ w (rStrOwn (Λ.B.C cc) (spF0 Λ.B wp) E) (strOD cc wp) := fun env W σ H ds vs Q q x S hx r h k => by
  unfold strOD at h
  split at h
  · obtain ⟨v, rfl, r1⟩ := r.one_inv
    obtain ⟨rfl, h⟩ := h
    obtain ⟨a, rfl, hi⟩ := rep_ins r1
    refine ⟨a, rfl, hi, call0 S (RepL.one r1) h fun d v H' hq S' e' r' => ?_⟩
    cases d <;> first | exact hq.elim | skip
    cases r'
    exact ⟨_, rfl, k _ _ H' hq S' e' rfl⟩
  · exact h.elim
/-! ### enumerate(tuple) -/
theorem it_enumT {W : Ow} {H : Hp} {p : Addr} {vs : List V} {ds : List D} (h : SqT Λ.B.K (Λ.vis W H) p vs) (r : RepL Λ.B (Λ.vis W H) ds vs) : ItOk Λ W H (IteT Λ.B.K p) (enD ds) where
  go := fun i env' W' σ' H' hi S s => by
    rw [enD_len] at hi
    obtain ⟨v, hv, _⟩ := r.get (List.getElem?_eq_getElem hi)
    exact ⟨vs, v, Same_seqT hid_le (Same_seqT s h), hv⟩
  stop := fun env' W' σ' H' S s => ⟨vs, Same_seqT hid_le (Same_seqT s h), by rw [r.len, enD_len]; exact Nat.le_refl _⟩
  yld := fun i x env' W' σ' H' H'' hi S s y => by
    obtain ⟨T, z, rfl, hT, rfl, y⟩ := y
    obtain ⟨d, hd, rd⟩ := r.geti (y vs (Same_seqT hid_le (Same_seqT s h)))
    exact ⟨same_new hT, _, enD_get hd, new_tup S hT ⟨_, _, rfl, rfl, _, _, rfl, rd.up s, rfl⟩⟩
theorem xi_enumT {p tpos : Pos} {elts : List Expr} {kk : Nat} (hg : Gl X "enumerate") (hm : X.mg "enumerate" = none) (ha : XE X Λ w a t) (hs : starEach [a] X.env = [(false, eval a X.env)] := by rfl) :
    XI X Λ w (.Tuple elts kk tpos) (.Call (.Name "enumerate" p) [a] [] pos) (dEn isT t) := ⟨fun hK => by
  obtain ⟨r, p, s⟩ := ha.ex hK
  refine ⟨_, pi_enumT hg hm (pa_cons p pa_nil hs) hs, fun env W σ H R q x S hx hh k => s env W σ H _ _ x S hx hh fun d v H1 h1 S1 e1 r1 => ?_⟩
  cases d with
  | tup ds =>
    obtain ⟨p, vs, rfl, h2, r2⟩ := r1
    rw [hK]
    exact ⟨p, vs, rfl, Same_seqT hid_le h2, k _ _ H1 h1 S1 e1 (it_enumT h2 r2)⟩
  | _ => exact h1.elim⟩
/-! ### text * 0, text * 1 -/
def rMulS : R2 := fun x y H Q => ∃ a n, x = .str a ∧ y = .int n ∧ ((n = 0 ∧ Q (.str Str.empty) H) ∨ (n = 1 ∧ Q (.str a) H))
theorem op_mulS : OpR X (binaryOp .Mult) rMulS := by
  intro pins s σ H x y v u Q I rx ry h
  obtain ⟨a, n, rfl, rfl, h⟩ := h
  obtain ⟨t, rfl⟩ := (show ∃ t, v = Value.str a t from rx)
  obtain ⟨t', rfl⟩ := (show ∃ t, u = Value.int n t from ry)
  rcases h with ⟨rfl, q⟩ | ⟨rfl, q⟩
  · exact PySem.P.mul_str_none (by decide) (by decide) ⟨.str _, H, I.tok _, ⟨_, rfl⟩, q⟩
  · exact PySem.P.mul_str (by decide) (fun _ h => by simp at h) (fun _ h => by simp at h) ⟨.str a, H, I, ⟨_, rfl⟩, q⟩
def mulS : D → D → DK := fun d e q _ => match d, e with
  | .str a, .int n => (n = 0 ∧ q (.str Str.empty)) ∨ (n = 1 ∧ q (.str a))
  | _, _ => False
theorem snd_mulS : SndR Λ w rMulS mulS := fun env W σ H d e v u Q q x S hx r1 r2 h k => by
  cases d <;> cases e <;> first | exact h.elim | skip
  cases r1
  cases r2
  rcases h with ⟨rfl, h⟩ | ⟨rfl, h⟩
  · exact ⟨_, _, rfl, rfl, .inl ⟨rfl, k _ _ H h S .refl rfl⟩⟩
  · exact ⟨_, _, rfl, rfl, .inr ⟨rfl, k _ _ H h S .refl rfl⟩⟩
/-! ### a test that looks at an own list -/
theorem thaw {env : List Sl} {W : Ow} {σ : L2.St} {H H' : Hp} {i : Nat} {ds : List D} (S : StOk Λ env W σ H) (hd : env[i]? = some (.ow ds)) (S' : StOk Λ (env.set i (.va (.lst ds))) (wput W i none) σ H') (e : Ev Λ (wput W i none) H H') : StOk Λ env W σ H' ∧ Ev Λ W H H' := by
  obtain ⟨p, vs, h0, h1, h2, h3, h4⟩ := S.sl i _ hd
  have nG : ¬ Λ.G (wput W i none) p := by
    rintro (z | z | ⟨j, z⟩)
    · exact (S.wx i p h0).2.1 z
    · exact h4 z
    · by_cases q : j = i
      · rw [wput_same q] at z; cases z
      · rw [wput_ne q] at z; exact q (S.wi j i p z h0)
  have up : ∀ a, Λ.G (wput W i none) a → Λ.G W a := by
    rintro a (z | z | ⟨j, z⟩)
    · exact .inl z
    · exact .inr (.inl z)
    · by_cases q : j = i
      · rw [wput_same q] at z; cases z
      · rw [wput_ne q] at z; exact .inr (.inr ⟨j, z⟩)
  have hp : ∀ o, H p = some o → H' p = some o := fun o ho => hid_le _ _ (e.vis p o (hid_some.mpr ⟨nG, ho⟩))
  have ev : Ev Λ W H H' := by
    refine ⟨fun a o h => ?_, fun j q o hw ho => ?_, e.all⟩
    · obtain ⟨g, h⟩ := hid_some.mp h
      exact hid_some.mpr ⟨g, hid_le _ _ (e.vis a o (hid_some.mpr ⟨fun z => g (up a z), h⟩))⟩
    · by_cases c : j = i
      · subst c
        rw [h0] at hw
        cases hw
        exact hp o ho
      · exact e.own j q o (by rw [wput_ne c]; exact hw) ho
  refine ⟨⟨by have := S'.len; rw [List.length_set] at this; exact this, fun j x hj => (S.sl j x hj).mono ev.vis ev.own, S'.fr, S'.mx, S'.zx, fun j q hw => ⟨ev.all q (S.wx j q hw).1, (S.wx j q hw).2⟩, S.wi, fun d l ed => ?_, S.wf⟩, ev⟩
  obtain ⟨a1, a2, a3, _⟩ := S'.dl d l ed
  exact ⟨a1, a2, a3, (S.dl d l ed).2.2.2⟩
def dPeek (i : Nat) (t : DT) : DT := fun env q x => match env[i]? with
  | some (.ow ds) => t (env.set i (.va (.lst ds))) q (fun _ => False)
  | _ => t env q x
theorem xt_peek (i : Nat) {t : DT} (h : XT X Λ w e t) : XT X Λ w e (dPeek i t) := ⟨fun hK => by
  obtain ⟨r, p, s⟩ := h.ex hK
  refine ⟨r, p, fun env W σ H Q q x S hx h k => ?_⟩
  unfold dPeek at h
  split at h
  · rename_i ds hd
    obtain ⟨S2, s2⟩ := S.freeze hd
    refine s _ _ σ H Q q (fun _ => False) S2 (fun _ _ _ _ z => z.elim) h fun b H' hq S' e' => ?_
    obtain ⟨S3, e3⟩ := thaw S hd S' e'
    exact k b H' hq S3 e3
  · exact s env W σ H Q q x S hx h k⟩
end
end Eb

/-! ## own layer: int on the left of an own instance, calling an instance, without a heap -/
namespace Eb
open PySem PySem.Spec PyProof.Rows L2 StX
section
variable {M : Model} {A : Around} {E : Value → Shared → Prop} {s : Shared} {pos : Pos} {x : Addr} {first : List Value} {Q : Value → Shared → Prop} {env : Env}
theorem callI_of {args : List (Bool × Sem Value)} {keywords : List (Option Str × Sem Value)} (hplain : (args.any (·.1) || keywords.any (·.1.isNone)) = false)
    (h : wpAny M A (evalArgs (.ref x) true args keywords) (fun a s₁ => (∃ ox, s₁.heap.get? x = some ox ∧ ox.data = .plain) ∧ wpAny M A (call (.ref x) (first ++ a.pos) a.kw) Q E s₁) E s) : wpAny M A (callWith pos (.ref x) first args keywords) Q E s := by
  unfold callWith
  refine wpAny_bind (wpAny_holding (wpAny_mono h (fun a s₁ h₁ => wpAny_bind (wpAny_standAt ?_)) fun _ _ y => y))
  obtain ⟨⟨ox, at_, hd⟩, h₁⟩ := h₁
  have L : PySem.W.Looks M s₁.heap (keeperOf (.ref x)) .caller := by
    refine (PySem.W.Looks.ld (part := none) at_).andThen ?_
    simp only [hd]
    exact .now
  simp only [hplain]
  refine wpAny_bind (L.here ?_)
  have tail : ∀ {t : Sem Value}, wpAny M A t Q E s₁ → wpAny M A (t >>= fun r => holding [r] point >>= fun _ => pure r) Q E s₁ :=
    fun ht => wpAny_bind (wpAny_mono ht (fun r s₂ hr => wpAny_bind (wpAny_holding (wpAny_point (wpAny_pure hr)))) fun _ _ y => y)
  exact tail (wpAny_operateT h₁)
theorem callI {e : Expr} {rest : List Expr} (h : wpAny M A (spliced (backTo pos (starEach (e :: rest) env))) (fun vs s₁ => (∃ ox, s₁.heap.get? x = some ox ∧ ox.data = .plain) ∧ wpAny M A (call (.ref x) (first ++ vs)) Q E s₁) E s)
    (he : starEach (e :: rest) env = (false, eval e env) :: starEach rest env) (hplain : (backTo pos (starEach rest env)).any (·.1) = false) :
    wpAny M A (callWith pos (.ref x) first (backTo pos (starEach (e :: rest) env)) []) Q E s := by
  rw [he] at h ⊢
  exact callI_of (by show ((false || (backTo pos (starEach rest env)).any (·.1)) || false) = false; rw [hplain]; rfl) (PySem.Calls.evalArgs_plain h)
end
section
variable {X : Cx} {CX : CXT} {n : Nat} {C g g0 : Addr} {sp : Sp} {E : XK} {pins : List (Addr × Obj)} {σ : L2.St} {H : Hp} {s : Shared} {o e : Expr} {es : List Expr} {pos : Pos}
theorem insO_obj {a : Addr} (I : Inv X pins σ H s) (h : InsO H a C) : ∃ dx od, PySem.W.InstAt s.heap a (PySem.W.instObj C dx) C od := by
  obtain ⟨dx, fs, h⟩ := h
  obtain ⟨mA, O, _⟩ := ins_get I.hok h
  obtain ⟨od, J, _⟩ := O.look
  exact ⟨dx, _, J⟩
/-- i op x -/
def rIB (C : Addr) (sp : Sp) (E : XK) : R2 := fun x y H Q => ∃ i b, x = .int i ∧ y = .ref b ∧ InsO H b C ∧ sp [y, x] H Q E
theorem op_binR {op : Operator} {idl : String} (hc : PySem.W.selfFirst X.K C = true) (D : Declines op.info.2 idl) (hs : PySem.W.findIn X.K (.ref C) (PySem.dunder op.info.2) = some (some (.ref g0))) (hr : PySem.W.findIn X.K (.ref C) (dunderR op.info.2) = some (some (.ref g)))
    (hf : PySem.W.isFn X.K (.ref g) = true) (hsub : PySem.W.subIn X.K (.ref C) (.type "int") = some false) (F : FnR X.prog X.w X.K X.mg X.base CX n g sp) (hrm : Room n X.A) (hx : Passes CX X E) : OpR X (binaryOp op) (rIB C sp E) := by
  intro pins s σ H x y v u Q I rx ry h
  obtain ⟨i, b, rfl, rfl, hb, q⟩ := h
  obtain ⟨t, rfl⟩ := (show ∃ t, v = Value.int i t from rx)
  cases (show u = Value.ref b from ry)
  obtain ⟨dx, od, J⟩ := insO_obj I hb
  obtain ⟨m, hF⟩ := I.fr
  refine bin_IR hF I.ok.mod.kin J hc D hs hr hf hsub ?_
  refine wpAny_mono (wpAny_call (run_fnR (us := [.ref b, .int i t]) (vs := [.ref b, .int i]) F hrm hx I (.cons rfl (.cons ⟨t, rfl⟩ .nil)) q)) (fun w s' z => ?_) fun _ _ x => x
  obtain ⟨z', H', I', rz, qz⟩ := z
  exact SlX.cmpback rz ⟨z', H', I', rz, qz⟩
/-- o(e, ..), o an own instance -/
def tInst (C : Addr) (sp : Sp) (E : XK) (ta : TE) (t : TA) : TE := fun σ H Q => ta σ H fun x H1 => ∃ a, x = .ref a ∧ t σ H1 fun vs H2 => InsO H2 a C ∧ sp (.ref a :: vs) H2 Q E
theorem pe_inst {ta : TE} {t : TA} (he : PE X o ta) (hs : PySem.W.findIn X.K (.ref C) "__call__" = some (some (.ref g))) (hf : PySem.W.isFn X.K (.ref g) = true) (hfn : PySem.W.fnIn X.K g = true) (F : FnR X.prog X.w X.K X.mg X.base CX n g sp) (hr : Room n X.A) (hx : Passes CX X E) (ha : PA X (e :: es) t)
    (hst : starEach (e :: es) X.env = (false, eval e X.env) :: starEach es X.env := by rfl) (hpl : (backTo pos (starEach es X.env)).any (·.1) = false := by rfl)
    (ht : eval (.Call o (e :: es) [] pos) X.env = (do callWith pos (← eval o X.env) [] (backTo pos (starEach (e :: es) X.env)) (backToKw pos (keywordEach [] X.env))) := by rfl) : PE X (.Call o (e :: es) [] pos) (tInst C sp E ta t) := by
  refine ⟨fun pins s σ H Q I h => ?_⟩
  rw [ht]
  refine wpAny_bind (thn (he.run pins s σ H _ I h) fun u s1 ⟨x, H1, I1, rx, a, ex, q⟩ => ?_)
  subst ex
  obtain rfl : u = Value.ref a := rx
  refine callI (thn (ha.run pos pins s1 σ H1 _ I1 q) fun us s2 ⟨vs, H2, I2, r, hi, q2⟩ => ?_) hst hpl
  obtain ⟨dx, od, J⟩ := insO_obj I2 hi
  refine ⟨⟨_, J.at_, rfl⟩, ?_⟩
  exact wpAny_call (PySem.W.kco_code (a := ⟨[] ++ us, []⟩) I2.kIn J rfl hs hf hfn (run_fnR (us := .ref a :: us) (vs := .ref a :: vs) F hr hx I2 (.cons rfl r) q2))
end
end Eb

namespace Eb
open PySem PySem.Spec PyProof.Rows L2 StX
section
variable {X : Cx} {Λ : Lx} {w : WX} {a b c e o : Expr} {es : List Expr} {ta tb tc t : DE} {u : DA} {pos p apos : Pos} {k : Nat} {f g : Addr} {fd : FuncData} {ps : List Str} {wp wr : DW} {y : Str}
def opRD (c : Nat) (wp : DW) : D → D → DK := fun d e q _ => match d, e with
  | .int i, .obj c1 f1 => c1 = c ∧ wp [.obj c1 f1, .int i] q (fun _ => False)
  | _, _ => False
theorem snd_opR {c : Nat} {E : XK} : SndR Λ w (rIB (Λ.B.C c) (spF0 Λ.B wp) E) (opRD c wp) := fun env W σ H d e v u Q q x S hx r1 r2 h k => by
  cases d <;> cases e <;> first | exact h.elim | skip
  obtain ⟨rfl, h⟩ := h
  obtain ⟨a1, rfl, i1⟩ := rep_ins r2
  cases r1
  exact ⟨_, a1, rfl, rfl, i1, call0 S (RepL.cons r2 (RepL.cons (d := .int _) rfl RepL.nil)) h k⟩
/-- an int or an instance on the left, an instance on the right -/
def opXD (c : Nat) (wp wr : DW) : D → D → DK := fun d e q x => match d with
  | .int i => opRD c wr (.int i) e q x
  | d => opAD c wp d e q x
theorem snd_opX {c : Nat} {E : XK} : SndR Λ w (fun x y H Q => (rB2 (Λ.B.C c) (spF0 Λ.B wp) E x y H Q ∨ rBI (Λ.B.C c) (spF0 Λ.B wp) E x y H Q) ∨ rIB (Λ.B.C c) (spF0 Λ.B wr) E x y H Q) (opXD c wp wr) := fun env W σ H d e v u Q q x S hx r1 r2 h k => by
  cases d
  case int i => exact .inr (snd_opR env W σ H _ _ v u Q q x S hx r1 r2 h k)
  all_goals exact .inl (snd_opA env W σ H _ _ v u Q q x S hx r1 r2 h k)
theorem fnIn_of {x qual : Str} {st : Stmt} (F : Fun X.K x qual st f fd) : PySem.W.fnIn X.K f = true := by
  obtain ⟨oc, od, kV, doc, pm, an, cdv, ct, osl, e, lk, hcd⟩ := F.ex
  unfold PySem.W.fnIn
  rw [lk]
/-- o(e, ..), o an own instance -/
theorem xe_inst {cc : Nat} (he : XE X Λ w o t) (hm : Meth X.K (Λ.B.C cc) "__call__" g) (hfn : PySem.W.fnIn X.K g = true) (F : FnOk X.prog X.w X.K X.mg X.base CX0 k g fd ps (spF0 Λ.B wp)) (hr : Room k X.A) (hb : Binds X.K fd ps []) (ha : XA X Λ w (e :: es) u)
    (hst : starEach (e :: es) X.env = (false, eval e X.env) :: starEach es X.env := by rfl) (hpl : (backTo pos (starEach es X.env)).any (·.1) = false := by rfl)
    (ht : eval (.Call o (e :: es) [] pos) X.env = (do callWith pos (← eval o X.env) [] (backTo pos (starEach (e :: es) X.env)) (backToKw pos (keywordEach [] X.env))) := by rfl) : XE X Λ w (.Call o (e :: es) [] pos) (dM0 cc wp t u) := ⟨fun hK => by
  obtain ⟨r, p, s⟩ := he.ex hK
  obtain ⟨r', p', s'⟩ := ha.ex hK
  refine ⟨_, pe_inst p hm.at_ hm.fn hfn (raw0 F hb) hr (E := E0) pass0 p' hst hpl ht, fun env W σ H Q q x S hx h k => s env W σ H _ _ x S hx h fun d v H1 h1 S1 e1 r1 => ?_⟩
  cases d <;> first | exact h1.elim | skip
  rename_i c' fs
  obtain ⟨rfl, h1⟩ := h1
  obtain ⟨a, rfl, hi⟩ := rep_ins r1
  refine ⟨a, rfl, s' env W σ H1 _ _ x S1 (hx.on e1) h1 fun ds vs H2 h2 S2 e2 r2 => ?_⟩
  obtain ⟨a', e', hi'⟩ := rep_ins (r1.up e2.vis)
  cases e'
  exact ⟨hi', call0 S2 (RepL.cons (r1.up e2.vis) r2) h2 fun d v H' a b c => k d v H' a b ((e1.trans e2).trans c)⟩⟩
/-- min, max of a list of ints -/
def minLD : List D → DK := fun ds q _ => ∃ ns : List Int, ds = [.lst (ns.map .int)] ∧ 0 < ns.length ∧ ∀ m, m ∈ ns → (∀ y, y ∈ ns → m ≤ y) → q (.int m)
def maxLD : List D → DK := fun ds q _ => ∃ ns : List Int, ds = [.lst (ns.map .int)] ∧ 0 < ns.length ∧ ∀ m, m ∈ ns → (∀ y, y ∈ ns → y ≤ m) → q (.int m)
theorem snd_minL : SndC Λ w (rMin Λ.B.K) minLD := fun env W σ H ds vs Q q x S hx r h k => by
  obtain ⟨ns, e, hn, h⟩ := h
  subst e
  obtain ⟨v, rfl, r1⟩ := r.one_inv
  obtain ⟨p, vs, rfl, h4, r4⟩ := rep_lst r1
  cases r4.ints
  exact ⟨p, ns, rfl, sqL_of h4, hn, fun m h1 h2 => k _ _ H (h m h1 h2) S .refl rfl⟩
theorem snd_maxL : SndC Λ w (rMax Λ.B.K) maxLD := fun env W σ H ds vs Q q x S hx r h k => by
  obtain ⟨ns, e, hn, h⟩ := h
  subst e
  obtain ⟨v, rfl, r1⟩ := r.one_inv
  obtain ⟨p, vs, rfl, h4, r4⟩ := rep_lst r1
  cases r4.ints
  exact ⟨p, ns, rfl, sqL_of h4, hn, fun m h1 h2 => k _ _ H (h m h1 h2) S .refl rfl⟩
theorem hc_minL (hc : X.calm = true) : X.K = Λ.B.K → CallR X (.builtin "min") (rMin Λ.B.K) := fun hK => hK ▸ cr_min hc
theorem hc_maxL (hc : X.calm = true) : X.K = Λ.B.K → CallR X (.builtin "max") (rMax Λ.B.K) := fun hK => hK ▸ cr_max hc
/-- x op= y, x an own instance -/
theorem ip_obj {CX : CXT} {n : Nat} {C g : Addr} {sp : Sp} {E : XK} {op : Operator} (hc : PySem.W.selfFirst X.K C = true) (ni : NoI X.K C op.info.2) (hs : PySem.W.findIn X.K (.ref C) (PySem.dunder op.info.2) = some (some (.ref g))) (hf : PySem.W.isFn X.K (.ref g) = true) (hR : RefO X.K C op.info.2) (hsub : PySem.W.subIn X.K (.type "int") (.ref C) = some false)
    (F : FnR X.prog X.w X.K X.mg X.base CX n g sp) (hr : Room n X.A) (hx : Passes CX X E) : PIp X op (fun x y H Q => rB2 C sp E x y H Q ∨ rBI C sp E x y H Q) := by
  intro pins s σ H x y v u Q I rx ry h
  obtain ⟨m, hF⟩ := I.fr
  rcases h with ⟨a, b, rfl, rfl, ha, hb, q⟩ | ⟨a, i, rfl, rfl, ha, q⟩
  · cases (show v = Value.ref a from rx)
    cases (show u = Value.ref b from ry)
    obtain ⟨ox, od, J⟩ := insO_at I ha
    obtain ⟨ox', od', J'⟩ := insO_at I hb
    refine ip_same hF I.ok.mod.kin J J' hc ni hs hf ?_
    refine wpAny_mono (wpAny_call (run_fnR (us := [.ref a, .ref b]) (vs := [.ref a, .ref b]) F hr hx I (.cons rfl (.cons rfl .nil)) q)) (fun w s' ⟨z', H', I', rz, qz⟩ => SlX.cmpback rz ⟨z', H', I', rz, qz⟩) fun _ _ x => x
  · cases (show v = Value.ref a from rx)
    obtain ⟨t, rfl⟩ := (show ∃ t, u = Value.int i t from ry)
    obtain ⟨ox, od, J⟩ := insO_at I ha
    obtain ⟨rc, fo, ro, h0, hp, h1, h2⟩ := hR
    refine ip_int hF I.ok.mod.kin J hc ni hs hf h0 hp h1 h2 hsub ?_
    refine wpAny_mono (wpAny_call (run_fnR (us := [.ref a, .int i t]) (vs := [.ref a, .int i]) F hr hx I (.cons rfl (.cons ⟨t, rfl⟩ .nil)) q)) (fun w s' ⟨z', H', I', rz, qz⟩ => SlX.cmpback rz ⟨z', H', I', rz, qz⟩) fun _ _ x => x
def dAugO (i c : Nat) (wp : DW) (t : DE) : DS := fun env e => match env[i]? with
  | some (.va d) => t env (fun d2 => opAD c wp d d2 (fun r => e.nx (env.set i (.va r))) (fun _ => False)) (e.ex env)
  | _ => False
theorem xs_augO {i cc : Nat} {y : Str} {op : Operator} {p : Pos} (hN : X.N.Nodup) (hi : X.N[i]? = some y) (hx : Loc X.env.scope y) (he : XE X Λ w a t) (ho : PIp X op (fun x y H Q => rB2 (Λ.B.C cc) (spF0 Λ.B wp) E0 x y H Q ∨ rBI (Λ.B.C cc) (spF0 Λ.B wp) E0 x y H Q)) (hf : X.fn y = true ∨ X.env.scope.names.lookup y = some .local := by first | exact .inl rfl | exact .inr rfl | assumption) :
    XS X Λ w (.AugAssign (.Name y p) op a pos) (dAugO i cc wp t) := ⟨fun hK => by
  obtain ⟨r, pp, s⟩ := he.ex hK
  refine ⟨_, ps_aug hN hi hx pp ho hf, fun env W σ H E e S L h => ?_⟩
  unfold dAugO at h
  split at h
  · rename_i d hd
    obtain ⟨v, hσ, rv⟩ := S.sl i _ hd
    refine ⟨_, hσ, s env W σ H _ _ _ S L.xok h fun d2 v2 H1 h1 S1 e1 r1 => ?_⟩
    exact snd_opA (w := w) (E := E0) env W σ H1 d d2 v v2 _ _ (fun _ => False) S1 (fun _ _ _ _ z => z.elim) (rv.up e1.vis) r1 h1 fun d3 v3 H3 h3 S3 e3 r3 => L.nx _ _ _ _ h3 (S3.put r3) (e1.trans e3).vis
  · exact h.elim⟩
/-- a, b, .. = a list -/
def gTL (is : List Nat) : DG := fun d env q => match d with
  | .lst ds => gNs is ds env q
  | _ => False
theorem xg_unl {is : List Nat} {k n : Nat} (hc : X.calm = true) (h : XGs X es is) (hn : (assignEach es X.env).length = n := by rfl) (hst : (assignEach es X.env).findIdx? (·.1) = none := by rfl) (hl : n = is.length := by rfl) :
    XG X Λ (.Tuple es k pos) (gTL is) is := ⟨fun hK => ⟨_, pg_unl hc h.ex hn hst, fun env W σ H d v q Q S r h k => by
  cases d with
  | lst ds =>
    obtain ⟨a, vs, rfl, h1, h2⟩ := r
    refine ⟨a, vs, rfl, sqL_of (hid_le _ _ h1), by rw [h2.len, gNs_len h, hl], snd_gNs is S h2 h k⟩
  | _ => exact h.elim⟩⟩
end
end Eb

/-! ## own layer: classmethods, cls(..), sorted(set(..)), a dict display looked up at once, defs that call themselves -/
namespace Eb
open PySem PySem.Spec PyProof.Rows L2 StX
section
variable {X : Cx} {Λ : Lx} {w : WX} {a b c e o : Expr} {es : List Expr} {ta tb tc t : DE} {tA tB : DT} {u : DA} {pos p apos : Pos} {k : Nat} {f : Addr} {fd : FuncData} {ps : List Str} {wp : DW} {y : Str}
/-! ### classmethods -/
theorem pe_cmeth0 {CX : CXT} {C p g : Addr} {mc : Value} {sp : Sp} {E : XK} {m : Str} {ta : TE} {pl : Sem Bool} (he : PE X o ta) (r : ClX.CRead X.K C mc) (c : ClX.CMet X.K C mc m p g) (F : FnR X.prog X.w X.K X.mg X.base CX k g sp) (hr : Room k X.A) (hx : Passes CX X E)
    (ht : eval (.Call (.Attribute o m apos) [] [] pos) X.env = (do
      let ov ← eval o X.env
      standAt apos.atName
      let (f, first) ← holding [ov] (getMethod ov m pl)
      callWith pos f first (backTo pos (starEach [] X.env)) (backToKw pos (keywordEach [] X.env))) := by rfl) :
    PE X (.Call (.Attribute o m apos) [] [] pos) (ClX.tCMeth C sp E ta tNil) := by
  refine ⟨fun pins s σ H Q I h => ?_⟩
  refine PySem.W.methodCall_KW (pl := pl) (thn (he.run pins s σ H _ I h) fun u s1 ⟨x, H1, I1, rx, ex, q⟩ => ?_) ht
  subst ex
  obtain rfl : u = Value.ref C := rx
  refine ClX.getmethcm_ok I1 r c fun s2 I2 => ?_
  refine PySem.W.callWith_M0 (first := []) ⟨ClX.pin_at I2, I2.kIn⟩ c.fi ?_
  exact ClX.run_cm (us := []) (vs := []) F hr hx I2 .nil q
def dCM (cc : Nat) (wp : DW) (u : DA) : DE := fun env q x => u env (fun ds => wp (.cl cc :: ds) q (fun _ => False)) x
theorem xe_cmeth {cc : Nat} {m : Str} {pl : Sem Bool} (hg : Gl X y) (hm : X.mg y = some (.ref (Λ.B.C cc))) (hcm : ∃ mc pm, ClX.CRead X.K (Λ.B.C cc) mc ∧ ClX.CMet X.K (Λ.B.C cc) mc m pm f) (F : FnOk X.prog X.w X.K X.mg X.base CX0 k f fd ps (spF0 Λ.B wp)) (hr : Room k X.A) (hb : Binds X.K fd ps []) (ha : XA X Λ w (e :: es) u) (hdb : (y == ("__debug__" : Str)) = false := by decide)
    (hst : starEach (e :: es) X.env = (false, eval e X.env) :: starEach es X.env := by rfl) (hpl : (backTo pos (starEach es X.env)).any (·.1) = false := by rfl)
    (ht : eval (.Call (.Attribute (.Name y p) m apos) (e :: es) [] pos) X.env = (do
      let ov ← eval (.Name y p) X.env
      standAt apos.atName
      let (f, first) ← holding [ov] (getMethod ov m pl)
      callWith pos f first (backTo pos (starEach (e :: es) X.env)) (backToKw pos (keywordEach [] X.env))) := by rfl) : XE X Λ w (.Call (.Attribute (.Name y p) m apos) (e :: es) [] pos) (dCM cc wp u) := ⟨fun hK => by
  obtain ⟨ra, pa, sa⟩ := ha.ex hK
  obtain ⟨mc, pm, r, cm⟩ := hcm
  refine ⟨_, ClX.pe_cmeth (pe_glob (v := .ref (Λ.B.C cc)) hg hm rfl hdb) r cm (raw0 F hb) hr pass0 pa hst hpl ht, fun env W σ H Q q x S hx h k => ⟨rfl, sa env W σ H _ _ x S hx h fun ds vs H1 h1 S1 e1 r1 => ?_⟩⟩
  exact call0 (E := E0) (ds := .cl cc :: ds) (vs := .ref (Λ.B.C cc) :: vs) S1 (RepL.cons rfl r1) h1 fun d v H' a b c => k d v H' a b (e1.trans c)⟩
theorem xe_cmeth0 {cc : Nat} {m : Str} {pl : Sem Bool} (hg : Gl X y) (hm : X.mg y = some (.ref (Λ.B.C cc))) (hcm : ∃ mc pm, ClX.CRead X.K (Λ.B.C cc) mc ∧ ClX.CMet X.K (Λ.B.C cc) mc m pm f) (F : FnOk X.prog X.w X.K X.mg X.base CX0 k f fd ps (spF0 Λ.B wp)) (hr : Room k X.A) (hb : Binds X.K fd ps []) (hdb : (y == ("__debug__" : Str)) = false := by decide)
    (ht : eval (.Call (.Attribute (.Name y p) m apos) [] [] pos) X.env = (do
      let ov ← eval (.Name y p) X.env
      standAt apos.atName
      let (f, first) ← holding [ov] (getMethod ov m pl)
      callWith pos f first (backTo pos (starEach [] X.env)) (backToKw pos (keywordEach [] X.env))) := by rfl) : XE X Λ w (.Call (.Attribute (.Name y p) m apos) [] [] pos) (dCM cc wp dNil) := ⟨fun hK => by
  obtain ⟨mc, pm, r, cm⟩ := hcm
  refine ⟨_, pe_cmeth0 (pe_glob (v := .ref (Λ.B.C cc)) hg hm rfl hdb) r cm (raw0 F hb) hr pass0 ht, fun env W σ H Q q x S hx h k => ⟨rfl, ?_⟩⟩
  exact call0 (E := E0) (ds := [.cl cc]) (vs := [.ref (Λ.B.C cc)]) S (RepL.cons rfl RepL.nil) h k⟩
/-! ### cls(..): the class is held by a name of this def -/
theorem pe_makeL {CX : CXT} {C : Addr} {sp : Sp} {dvs : List V} {ds : List Value} {E : XK} {x : Str} {i : Nat} {t : TA} (M : Mk X.K C f) (F : FnOk X.prog X.w X.K X.mg X.base CX k f fd ps sp) (hr : Room (k + 1) X.A) (hv : PE X (.Name x p) (tVar i)) (hb : Binds X.K fd ps ds) (hd : Vals dvs ds) (hx : Passes CX X E)
    (ha : PA X (e :: es) t) (he : starEach (e :: es) X.env = (false, eval e X.env) :: starEach es X.env := by rfl) (hpl : (backTo pos (starEach es X.env)).any (·.1) = false := by rfl) :
    PE X (.Call (.Name x p) (e :: es) [] pos) (fun σ H Q => σ[i]? = some (some (.ref C)) ∧ tMake C sp dvs E t σ H Q) := by
  refine ⟨fun pins s σ H Q I h => ?_⟩
  obtain ⟨hs, ht⟩ := h
  refine wpAny_Call_Name_kw (thn (hv.run pins s σ H (fun v H1 => v = .ref C ∧ H1 = H) I ⟨.ref C, hs, rfl, rfl⟩) fun u s1 ⟨v, H1, I1, r1, q1⟩ => ?_)
  obtain ⟨rfl, rfl⟩ := q1
  cases r1
  refine PySem.W.callWith_K (h₀ := X.base) I.ok.mod.kin M.kp (thn (ha.run pos pins s1 σ _ _ I1 ht) fun us s2 ⟨vs, H2, I2, r, q⟩ => ⟨I2.kIn, ?_⟩) he hpl
  exact run_make M F hr hb hd hx I2 r q
def dMkL (i cc : Nat) (wp : DWI) (u : DA) : DE := fun env q x => env[i]? = some (.va (.cl cc)) ∧ u env (fun ds => wp ds (fun fs => q (.obj cc fs)) (fun _ => False)) x
theorem xe_makeL {cc i : Nat} {wp : DWI} (M : Mk X.K (Λ.B.C cc) f) (F : FnOk X.prog X.w X.K X.mg X.base CX0 k f fd ps (spI0 Λ.B cc wp)) (hr : Room (k + 1) X.A) (hv : PE X (.Name y p) (tVar i)) (hb : Binds X.K fd ps []) (ha : XA X Λ w (e :: es) u)
    (he : starEach (e :: es) X.env = (false, eval e X.env) :: starEach es X.env := by rfl) (hpl : (backTo pos (starEach es X.env)).any (·.1) = false := by rfl) : XE X Λ w (.Call (.Name y p) (e :: es) [] pos) (dMkL i cc wp u) := ⟨fun hK => by
  obtain ⟨r, p, s⟩ := ha.ex hK
  refine ⟨_, pe_makeL M F hr hv hb .nil pass0 p he hpl, fun env W σ H Q q x S hx h k => ?_⟩
  obtain ⟨h0, h⟩ := h
  obtain ⟨v, hσ, rv⟩ := S.sl i _ h0
  cases rv
  refine ⟨hσ, s env W σ H _ _ x S hx h fun ds vs H1 h1 S1 e1 r1 x dx h2 h3 h4 => ?_⟩
  rw [List.append_nil]
  exact make_i S1 r1 h1 (fun d v H' a b c => k d v H' a b (e1.trans c)) h2 h3 h4⟩
/-! ### {k: v, ..}[x], the keys texts -/
theorem valV_merge {κ : Type} [DecidableEq κ] : ∀ (more acc : List (κ × V)) (j : κ), (more.map (·.1)).Nodup → valV (more.foldl (fun acc kv => putK acc kv.1 kv.2) acc) j = (valV more j).or (valV acc j)
  | [], acc, j, _ => by rw [List.foldl_nil, valV_nil, Option.none_or]
  | (k0, y) :: r, acc, j, h => by
    rw [List.map_cons, List.nodup_cons] at h
    rw [List.foldl_cons, valV_merge r _ j h.2, valV_put]
    by_cases e : j = k0
    · have n : valV r j = none := by
        cases q : valV r j with
        | none => rfl
        | some z =>
          refine (h.1 ?_).elim
          obtain ⟨p, hp, _⟩ := Option.map_eq_some_iff.mp q
          have := List.find?_some hp
          exact List.mem_map.mpr ⟨p, List.mem_of_find?_eq_some hp, by rw [← e]; exact of_decide_eq_true this⟩
      rw [n, if_pos e, Option.none_or, valV_pos (p := (k0, y)) e.symm]
      rfl
    · rw [if_neg e, valV_neg (p := (k0, y)) fun z => e z.symm]
/-- the pairs of a display -/
def SndP (Λ : Lx) (trs : List (TE × TE)) (ks : List Str) (u : DA) : Prop := ∀ env W σ H (Q : List (V × V) → Hp → Prop) q, StOk Λ env W σ H → u env q (fun _ => False) →
  (∀ ds vs H', q ds → StOk Λ env W σ H' → Ev Λ W H H' → RepL Λ.B (Λ.vis W H') ds vs → Q ((ks.map V.str).zip vs) H') → tPairs trs σ H Q
structure XP (X : Cx) (Λ : Lx) (pos : Pos) (keys : List (Option Expr)) (values : List Expr) (ks : List Str) (u : DA) : Prop where
  ex : X.K = Λ.B.K → ∃ trs, PPs X pos keys values trs ∧ SndP Λ trs ks u
theorem xp_nil : XP X Λ pos [] [] [] dNil := ⟨fun _ => ⟨[], pps_nil, fun env W σ H Q q S h k => k [] [] H h S .refl rfl⟩⟩
theorem xp_cons {kx : Str} {j : Nat} {kp : Pos} {v : Expr} {keys : List (Option Expr)} {values : List Expr} {ks : List Str} {u : DA} (hv : XE X Λ w0 v t) (hr : XP X Λ pos keys values ks u) : XP X Λ pos (some (.Constant (.str kx) j kp) :: keys) (v :: values) (kx :: ks) (dCons t u) := ⟨fun hK => by
  obtain ⟨r, p, s⟩ := hv.ex hK
  obtain ⟨trs, p', s'⟩ := hr.ex hK
  refine ⟨_, pps_cons pe_str p p', fun env W σ H Q q S h k => ?_⟩
  refine s env W σ H _ _ _ S (fun _ _ _ _ z => z.elim) h fun d v H1 h1 S1 e1 r1 => ?_
  refine s' env W σ H1 _ _ S1 h1 fun ds vs H2 h2 S2 e2 r2 => ?_
  exact k (d :: ds) (v :: vs) H2 h2 S2 (e1.trans e2) (RepL.cons (r1.up e2.vis) r2)⟩
def dDict (ks : List Str) (u : DA) (tk : DE) : DE := fun env q _ => u env (fun ds => ds.length = ks.length ∧ tk env (fun d => match d with
  | .str k => match (ks.zip ds).lookup k with
    | some z => q z
    | none => False
  | _ => False) (fun _ => False)) (fun _ => False)
theorem lookup_rep {B : Tb} {H : Hp} : ∀ {ks : List Str} {ds : List D} {vs : List V} {k : Str} {z : D}, RepL B H ds vs → (ks.zip ds).lookup k = some z → ∃ v, valV ((ks.map (Sum.inr : Str → Key)).zip vs) (.inr k) = some v ∧ Rep B H z v
  | [], _, _, _, _, _, h => by simp at h
  | _ :: _, [], _, _, _, _, h => by simp at h
  | x :: ks, d :: ds, _, k, z, ⟨v, r, rfl, h1, h2⟩, h => by
    rw [List.zip_cons_cons, List.lookup_cons] at h
    by_cases e : k = x
    · subst e
      rw [beq_self_eq_true] at h
      cases h
      exact ⟨v, valV_pos (p := (Sum.inr k, v)) rfl, h1⟩
    · rw [beq_eq_false_iff_ne.mpr e] at h
      obtain ⟨v', a, b⟩ := lookup_rep h2 h
      refine ⟨v', ?_, b⟩
      rw [List.map_cons, List.zip_cons_cons, valV_neg (p := (Sum.inr x, v)) fun q => e (Sum.inr.inj q).symm]
      exact a
theorem xe_dict {i : Expr} {dpos : Pos} {keys : List (Option Expr)} {values : List Expr} {ks : List Str} {u : DA} {tk : DE} (hu : X.A.units + 64 < cLine) (h : XP X Λ dpos keys values ks u) (hi : XE X Λ w0 i tk) (hs : NoSl i := by exact fun _ _ => rfl) (hall : keys.all (·.isSome) = true := by rfl) (hl : keys.length = values.length := by rfl)
    (h0 : keys ≠ [] := by simp) (h15 : keys.length ≤ 15 := by decide) (hk : ks.length ≤ 15 := by decide) (hn : ks.Nodup := by decide +kernel) : XE X Λ w (.Subscript (.Dict keys values dpos) i pos) (dDict ks u tk) := ⟨fun hK => by
  obtain ⟨trs, pp, sp⟩ := h.ex hK
  obtain ⟨r', p', s'⟩ := hi.ex hK
  refine ⟨_, pe_dget (by omega) (pe_disp pp hall hl h0 h15) p' hs, fun env W σ H Q q x S hx hh kk p hp => ?_⟩
  obtain ⟨n0, hn0⟩ := S.wf
  let n := 2 * (n0 + env.length) + 1
  have hns : ¬ Sub n := by unfold Sub; omega
  have hnW0 : W n = none := hn0 n (by omega)
  have hE : env.length ≤ n := by omega
  have up1 : Same H (upd H p (.dK [])) := same_new hp
  obtain ⟨S2, v1, _⟩ := S.hide (S.grow up1) (.of up1) (i := n) (p := p) hp (by rw [upd_same]; simp) (.inl ⟨hE, hnW0⟩)
  have en : env.set n .un = env := List.set_eq_of_length_le hE
  rw [en] at S2
  have hnW : ∀ j, j ≠ n → W j = wput W n (some p) j := fun j hj => (wput_ne hj).symm
  have hW2 : wput W n (some p) n = some p := wput_same rfl
  have sub : ∀ j p', W j = some p' → wput W n (some p) j = some p' := fun j p' e => by
    by_cases z : j = n
    · rw [z, hnW0] at e; cases e
    · rw [wput_ne z]; exact e
  generalize wput W n (some p) = W2 at *
  have nm : ¬ Λ.M p := fun z => S.mx _ z hp
  refine sp env W2 σ _ _ _ S2 hh fun ds vs H2 h2 S2' e2 r2 => ?_
  obtain ⟨hlen, h2⟩ := h2
  have hd2 := e2.own n p _ hW2 upd_same
  have lvs : vs.length = ks.length := by rw [r2.len, hlen]
  refine ⟨hd2, (ks.map (Sum.inr : Str → Key)).zip vs, ?_, by simp; omega, ?_⟩
  · rw [List.zip_map_left, List.zip_map_left, List.map_map]
    rfl
  have S3 := S2'.mutV (o := .dK (mergeK [] ((ks.map (Sum.inr : Str → Key)).zip vs))) hW2 hE hns nm
  have v3 : Same (Λ.vis W2 H2) (Λ.vis W2 (upd H2 p (.dK (mergeK [] ((ks.map (Sum.inr : Str → Key)).zip vs))))) := hid_grow fun b u g hb2 => ⟨g, by rw [upd_ne (show b ≠ p from fun z => g (.inr (.inr ⟨n, by rw [z]; exact hW2⟩)))]; exact hb2⟩
  refine s' env W2 σ _ _ _ _ S3 (fun _ _ _ _ z => z.elim) h2 fun d v H4 h4 S4 e4 r4 => ?_
  have hd4 := e4.own n p _ hW2 upd_same
  cases d <;> first | exact h4.elim | skip
  rename_i kx
  cases r4
  have h4 : (match (ks.zip ds).lookup kx with
    | some z => q z
    | none => False) := h4
  cases hz : (ks.zip ds).lookup kx with
  | none => rw [hz] at h4; exact h4.elim
  | some z =>
    rw [hz] at h4
    obtain ⟨v, hv, rv⟩ := lookup_rep r2 hz
    have gsub : ∀ b, Λ.G W b → Λ.G W2 b := fun b g => by
      rcases g with z | z | ⟨j, z⟩
      · exact .inl z
      · exact .inr (.inl z)
      · exact .inr (.inr ⟨j, sub j b z⟩)
    have v6 : Same (Λ.vis W2 H4) (Λ.vis W H4) := hid_anti gsub
    have knd : (((ks.map (Sum.inr : Str → Key)).zip vs).map (·.1)).Nodup := by
      rw [← List.unzip_fst, List.unzip_zip (by rw [List.length_map, lvs])]
      exact List.Pairwise.map _ (fun a b hab z => hab (Sum.inr.inj z)) hn
    refine ⟨p, v, rfl, ?_, kk z v H4 h4 (S4.show_ hE hns hnW hnW0) ⟨?_, ?_, ?_⟩ (rv.up ((v3.trans e4.vis).trans v6))⟩
    · have g := DGet.k (k := Sum.inr kx) hd4
      have e : valV (mergeK [] ((ks.map (Sum.inr : Str → Key)).zip vs)) (.inr kx) = some v := by
        unfold mergeK
        rw [valV_merge _ _ _ knd, hv]
        rfl
      rw [e] at g
      exact g
    · exact (((v1.trans e2.vis).trans v3).trans e4.vis).trans v6
    · intro j p' o hj ho
      have np : p' ≠ p := ne_of_none ho hp
      refine e4.own j p' o (sub j p' hj) ?_
      rw [upd_ne np]
      exact e2.own j p' o (sub j p' hj) (up1 _ _ ho)
    · intro b hb
      have np : b ≠ p := fun z => hb (by rw [z]; exact hp)
      refine e4.all b ?_
      rw [upd_ne np]
      exact e2.all b (some_mono up1 hb)⟩
/-! ### sorted(l), l a list of ints -/
def sortedD : List D → (List D → Prop) → (DX → Prop) → Prop := fun ds q _ => match ds with
  | [d] => ∃ ns : List Int, d = .lst (ns.map .int) ∧ ∀ ks : List Int, ks.Perm ns → ks.Pairwise (· ≤ ·) → q (ks.map .int)
  | _ => False
theorem snd_sorted : SndCL Λ w (rSortedI Λ.B.K) sortedD := fun env W σ H ds vs Q q x S hx r h k => by
  unfold sortedD at h
  split at h
  · obtain ⟨ns, rfl, h⟩ := h
    obtain ⟨v, rfl, r1⟩ := r.one_inv
    obtain ⟨l, vs, rfl, h4, r4⟩ := rep_lst r1
    cases r4.ints
    exact ⟨l, ns, rfl, sqL_of h4, fun ks p h1 h2 hp => finL S (RepL.of_ints) (h ks h1 h2) k p hp⟩
  · exact h.elim
theorem hc_sorted : X.K = Λ.B.K → CallR X (.builtin "sorted") (rSortedI Λ.B.K) := fun hK => hK ▸ cr_sortedI
/-! ### defs that call themselves -/
theorem xss_never : ∀ sts : List Stmt, sts ≠ [] → XSs X Λ w sts dNever
  | [], h => (h rfl).elim
  | [st], _ => xss_one xs_never
  | st :: s2 :: sts, _ => by
    have h := xss_cons (X := X) (Λ := Λ) (w := w) (st := st) xs_never (xss_never (s2 :: sts) (by simp))
    refine ⟨fun hK => ?_⟩
    obtain ⟨r, p, s⟩ := h.ex hK
    exact ⟨r, p, fun env W σ H E e S L z => s env W σ H E e S L z⟩
end
end Eb

/-! ## own layer: loops and comprehensions without a heap, by what they come to -/
namespace Eb
open PySem PySem.Spec PyProof.Rows L2
section
variable {g : DG} {b : DS} {e : DEnds} {env : List Sl} {α : Type}
/-- a for, by a word over the turns -/
theorem loop_by (P : Nat → List Sl → Prop) : ∀ (ds : List D) (i : Nat) (env : List Sl), P i env →
    (∀ k d env (N : List Sl → Prop), ds[k]? = some d → P (i + k) env → (∀ env', P (i + k + 1) env' → N env') → g d env fun env' => b env' { e with nx := N, ct := N, bk := e.nx }) → (∀ env, P (i + ds.length) env → e.nx env) → loopD g b e ds env
  | [], i, env, h0, _, hd => hd env h0
  | d :: ds, i, env, h0, hs, hd => by
    unfold loopD
    refine hs 0 d env (loopD g b e ds) rfl h0 fun env' h1 => ?_
    refine loop_by P ds (i + 1) env' h1 (fun k d' env2 N hk hp hN => ?_) fun env2 hp => hd env2 ?_
    · have e1 : i + 1 + k = i + (k + 1) := by omega
      rw [e1] at hp hN
      exact hs (k + 1) d' env2 N (by simpa using hk) hp hN
    · have e1 : i + 1 + ds.length = i + (d :: ds).length := by simp; omega
      rw [e1] at hp
      exact hp
/-- .. over xs.map φ: the word over the part gone -/
theorem loop_pre {φ : α → D} (P : List α → List Sl → Prop) (all : List α) : ∀ (xs pre : List α) (env : List Sl), all = pre ++ xs → P pre env →
    (∀ pre x suf env (N : List Sl → Prop), all = pre ++ x :: suf → P pre env → (∀ env', P (pre ++ [x]) env' → N env') → g (φ x) env fun env' => b env' { e with nx := N, ct := N, bk := e.nx }) → (∀ env, P all env → e.nx env) → loopD g b e (xs.map φ) env
  | [], pre, env, ha, h0, _, hd => hd env (by rw [ha, List.append_nil]; exact h0)
  | x :: xs, pre, env, ha, h0, hs, hd => by
    rw [List.map_cons]
    unfold loopD
    refine hs pre x xs env (loopD g b e (xs.map φ)) ha h0 fun env' h1 => ?_
    exact loop_pre P all xs (pre ++ [x]) env' (by rw [ha]; simp) h1 hs hd
theorem loop_map {φ : α → D} (P : List α → List Sl → Prop) (xs : List α) (h0 : P [] env)
    (hs : ∀ pre x suf env (N : List Sl → Prop), xs = pre ++ x :: suf → P pre env → (∀ env', P (pre ++ [x]) env' → N env') → g (φ x) env fun env' => b env' { e with nx := N, ct := N, bk := e.nx }) (hd : ∀ env, P xs env → e.nx env) : loopD g b e (xs.map φ) env := loop_pre P xs xs [] env rfl h0 hs hd
/-- .. over range(lo, lo + n) -/
theorem loop_range (P : Nat → List Sl → Prop) {lo : Int} {n : Nat} (h0 : P 0 env) (hs : ∀ k env (N : List Sl → Prop), k < n → P k env → (∀ env', P (k + 1) env' → N env') → g (.int (lo + (k : Int))) env fun env' => b env' { e with nx := N, ct := N, bk := e.nx })
    (hd : ∀ env, P n env → e.nx env) : loopD g b e (rgD lo n) env := by
  refine loop_by P (rgD lo n) 0 env h0 (fun k d env N hk hp hN => ?_) fun env hp => hd env (by rw [rgD_len, Nat.zero_add] at hp; exact hp)
  rw [Nat.zero_add] at hp hN
  have hk' : k < n := by
    have := (List.getElem?_eq_some_iff.mp hk).1
    rwa [rgD_len] at this
  simp only [rgD, List.getElem?_map, List.getElem?_range hk', Option.map_some, Option.some.injEq] at hk
  subst hk
  exact hs k env N hk' hp hN
end
/-! the same with the ends kept shut -/
section
variable {g : DG} {b : DS} {e : DEnds} {env : List Sl} {α : Type}
theorem for_map {φ : α → D} (P : List α → List Sl → Prop) (xs : List α) (h0 : P [] env)
    (hs : ∀ pre x suf env (e' : DEnds), xs = pre ++ x :: suf → P pre env → e'.rt = e.rt → e'.bk = e.nx → e'.ex = e.ex → e'.ct = e'.nx → (∀ env', P (pre ++ [x]) env' → e'.nx env') → g (φ x) env fun env' => b env' e') (hd : ∀ env, P xs env → e.nx env) : loopD g b e (xs.map φ) env :=
  loop_map P xs h0 (fun pre x suf env N hx hp hN => hs pre x suf env { e with nx := N, ct := N, bk := e.nx } hx hp rfl rfl rfl rfl hN) hd
theorem for_range (P : Nat → List Sl → Prop) {lo : Int} {n : Nat} (h0 : P 0 env) (hs : ∀ k env (e' : DEnds), k < n → P k env → e'.rt = e.rt → e'.bk = e.nx → e'.ex = e.ex → e'.ct = e'.nx → (∀ env', P (k + 1) env' → e'.nx env') → g (.int (lo + (k : Int))) env fun env' => b env' e')
    (hd : ∀ env, P n env → e.nx env) : loopD g b e (rgD lo n) env :=
  loop_range P h0 (fun k env N hx hp hN => hs k env { e with nx := N, ct := N, bk := e.nx } hx hp rfl rfl rfl rfl hN) hd
theorem for_by (P : Nat → List Sl → Prop) (ds : List D) (h0 : P 0 env)
    (hs : ∀ k d env (e' : DEnds), ds[k]? = some d → P k env → e'.rt = e.rt → e'.bk = e.nx → e'.ex = e.ex → e'.ct = e'.nx → (∀ env', P (k + 1) env' → e'.nx env') → g d env fun env' => b env' e') (hd : ∀ env, P ds.length env → e.nx env) : loopD g b e ds env :=
  loop_by P ds 0 env h0 (fun k d env N hx hp hN => by
    rw [Nat.zero_add] at hp hN
    exact hs k d env { e with nx := N, ct := N, bk := e.nx } hx hp rfl rfl rfl rfl hN) fun env h => hd env (by rw [Nat.zero_add] at h; exact h)
end
section
variable {g : DG} {t : DT} {u : DE} {env : List Sl} {q : List D → Prop} {α : Type}
/-- a comprehension: those that p lets by, by f -/
theorem lc_filter {φ : α → D} (p : α → Bool) (f : α → D) : ∀ (xs : List α) (acc : List D), (∀ x ∈ xs, ∀ (k : D → Prop) (n : Prop), (p x = true → k (f x)) → (p x = false → n) → g (φ x) env fun env' => t env' (fun b => iteB b (u env' k (fun _ => False)) n) (fun _ => False)) →
    acc.length + xs.length ≤ 100000 → q (acc ++ (xs.filter p).map f) → lcD g t u env q (xs.map φ) acc
  | [], acc, _, _, h => by
    unfold lcD
    simpa using h
  | x :: xs, acc, hs, hl, h => by
    rw [List.length_cons] at hl
    rw [List.map_cons]
    unfold lcD
    refine hs x (by simp) _ _ (fun hp => ?_) fun hp => ?_
    · refine ⟨by omega, lc_filter p f xs (acc ++ [f x]) (fun y hy => hs y (List.mem_cons_of_mem _ hy)) (by simp; omega) ?_⟩
      rw [List.filter_cons_of_pos hp, List.map_cons] at h
      simpa using h
    · refine lc_filter p f xs acc (fun y hy => hs y (List.mem_cons_of_mem _ hy)) (by omega) ?_
      rw [List.filter_cons_of_neg (by rw [hp]; exact Bool.false_ne_true)] at h
      exact h
/-- .. whatever comes, each with R -/
theorem lc_any {φ : α → D} (R : D → Prop) : ∀ (xs : List α) (acc : List D), (∀ x ∈ xs, ∀ (k : D → Prop) (n : Prop), (∀ d, R d → k d) → g (φ x) env fun env' => t env' (fun b => iteB b (u env' k (fun _ => False)) n) (fun _ => False)) →
    acc.length + xs.length ≤ 100000 → (∀ d ∈ acc, R d) → (∀ ds : List D, ds.length = acc.length + xs.length → (∀ d ∈ ds, R d) → q ds) → lcD g t u env q (xs.map φ) acc
  | [], acc, _, _, ha, h => by
    unfold lcD
    exact h acc (by simp) ha
  | x :: xs, acc, hs, hl, ha, h => by
    rw [List.length_cons] at hl h
    rw [List.map_cons]
    unfold lcD
    refine hs x (by simp) _ _ fun d hd => ⟨by omega, lc_any R xs (acc ++ [d]) (fun y hy => hs y (List.mem_cons_of_mem _ hy)) (by simp; omega) (fun e he => ?_) fun ds hds => h ds (by rw [hds]; simp; omega)⟩
    rcases List.mem_append.mp he with z | z
    · exact ha e z
    · rw [List.mem_singleton.mp z]; exact hd
/-- all of them, by f -/
theorem lc_map {φ : α → D} (f : α → D) (xs : List α) (hs : ∀ x ∈ xs, ∀ (k : D → Prop) (n : Prop), k (f x) → g (φ x) env fun env' => t env' (fun b => iteB b (u env' k (fun _ => False)) n) (fun _ => False)) (hl : xs.length ≤ 100000) (h : q (xs.map f)) : lcD g t u env q (xs.map φ) [] :=
  lc_filter (fun _ => true) f xs [] (fun x hx k n h1 _ => hs x hx k n (h1 rfl)) (by simpa using hl) (by rw [List.nil_append, List.filter_eq_self.mpr (by simp)]; exact h)
/-- .. over a range -/
theorem rgD_map (lo : Int) (n : Nat) : rgD lo n = (List.range n).map fun (i : Nat) => D.int (lo + (i : Int)) := rfl
/-- a while, by a word and a measure -/
theorem while_d {c : DT} {b : DS} {e : DEnds} {env : List Sl} (P : Nat → List Sl → Prop) (m : Nat) (h0 : P m env) (hs : ∀ m env, P m env → c env (fun k => iteB k (b env { e with nx := fun env' => ∃ m', m' < m ∧ P m' env', ct := fun env' => ∃ m', m' < m ∧ P m' env', bk := e.nx }) (e.nx env)) (e.ex env)) : dWhile c b env e := ⟨P, ⟨m, h0⟩, hs⟩
end
/-- a test whose answer is known; a value that is known -/
theorem test_by {c : DT} {env : List Sl} {q : Bool → Prop} {x : DX → Prop} (b : Bool) (h : ∀ q' : Bool → Prop, q' b → c env q' x) (k : q b) : c env q x := h q k
theorem val_by {c : DE} {env : List Sl} {q : D → Prop} {x : DX → Prop} (d : D) (h : ∀ q' : D → Prop, q' d → c env q' x) (k : q d) : c env q x := h q k
/-- ways join behind a statement -/
theorem seq_by {t u : DS} {env : List Sl} {e : DEnds} (J : List Sl → Prop) (h : ∀ e' : DEnds, e'.rt = e.rt → e'.bk = e.bk → e'.ct = e.ct → e'.ex = e.ex → (∀ env', J env' → e'.nx env') → t env e') (k : ∀ env', J env' → u env' e) : dSeq t u env e :=
  h { e with nx := fun env' => u env' e } rfl rfl rfl rfl k
theorem seq2 {a b u : DS} {env : List Sl} {e : DEnds} (J : List Sl → Prop) (h : ∀ e' : DEnds, e'.rt = e.rt → e'.bk = e.bk → e'.ct = e.ct → e'.ex = e.ex → (∀ env', J env' → e'.nx env') → (dSeq a b) env e') (k : ∀ env', J env' → u env' e) : (dSeq a (dSeq b u)) env e := seq_by (t := dSeq a b) J h k
theorem seq3 {a b c u : DS} {env : List Sl} {e : DEnds} (J : List Sl → Prop) (h : ∀ e' : DEnds, e'.rt = e.rt → e'.bk = e.bk → e'.ct = e.ct → e'.ex = e.ex → (∀ env', J env' → e'.nx env') → (dSeq a (dSeq b c)) env e') (k : ∀ env', J env' → u env' e) : (dSeq a (dSeq b (dSeq c u))) env e := seq_by (t := dSeq a (dSeq b c)) J h k
theorem seq4 {a b c d u : DS} {env : List Sl} {e : DEnds} (J : List Sl → Prop) (h : ∀ e' : DEnds, e'.rt = e.rt → e'.bk = e.bk → e'.ct = e.ct → e'.ex = e.ex → (∀ env', J env' → e'.nx env') → (dSeq a (dSeq b (dSeq c d))) env e') (k : ∀ env', J env' → u env' e) : (dSeq a (dSeq b (dSeq c (dSeq d u)))) env e := seq_by (t := dSeq a (dSeq b (dSeq c d))) J h k
theorem seq5 {a b c d f u : DS} {env : List Sl} {e : DEnds} (J : List Sl → Prop) (h : ∀ e' : DEnds, e'.rt = e.rt → e'.bk = e.bk → e'.ct = e.ct → e'.ex = e.ex → (∀ env', J env' → e'.nx env') → (dSeq a (dSeq b (dSeq c (dSeq d f)))) env e') (k : ∀ env', J env' → u env' e) : (dSeq a (dSeq b (dSeq c (dSeq d (dSeq f u))))) env e := seq_by (t := dSeq a (dSeq b (dSeq c (dSeq d f)))) J h k
theorem seq6 {a b c d f g u : DS} {env : List Sl} {e : DEnds} (J : List Sl → Prop) (h : ∀ e' : DEnds, e'.rt = e.rt → e'.bk = e.bk → e'.ct = e.ct → e'.ex = e.ex → (∀ env', J env' → e'.nx env') → (dSeq a (dSeq b (dSeq c (dSeq d (dSeq f g))))) env e') (k : ∀ env', J env' → u env' e) : (dSeq a (dSeq b (dSeq c (dSeq d (dSeq f (dSeq g u)))))) env e := seq_by (t := dSeq a (dSeq b (dSeq c (dSeq d (dSeq f g))))) J h k
/-! ### integers as data -/
theorem atI_at {α : Type} {xs : List α} {k : Nat} {z : α} {i : Int} (hi : i = k) (h : xs[k]? = some z) : atI xs i = some z := by
  subst hi
  unfold atI ixN
  have hk := (List.getElem?_eq_some_iff.mp h).1
  rw [if_pos (by omega), if_pos (by omega)]
  exact h
theorem atI_end {α : Type} {xs : List α} {z : α} : atI (xs ++ [z]) (-1) = some z := by
  unfold atI ixN
  rw [if_neg (by omega), if_pos (by simp; omega)]
  show (xs ++ [z])[((-1 : Int) + ((xs ++ [z]).length : Nat)).toNat]? = some z
  have e : ((-1 : Int) + ((xs ++ [z]).length : Nat)).toNat = xs.length := by simp; omega
  rw [e]
  simp
theorem cut_take {α : Type} (zs : List α) (k : Nat) : cutL zs none (some (k : Int)) = zs.take k := by
  unfold cutL
  rw [HT.sIx_none, show HT.sIx zs.length zs.length (some (k : Int)) = min k zs.length from HT.sIx_nat _ _ k]
  rw [List.drop_zero, Nat.sub_zero]
  exact (List.take_eq_take_min ..).symm
theorem cut_drop {α : Type} (zs : List α) (k : Nat) : cutL zs (some (k : Int)) none = zs.drop k := by
  unfold cutL
  rw [HT.sIx_none, show HT.sIx zs.length 0 (some (k : Int)) = min k zs.length from HT.sIx_nat _ _ k]
  rw [List.take_of_length_le (by rw [List.length_drop]; omega)]
  by_cases c : k ≤ zs.length
  · rw [Nat.min_eq_left c]
  · rw [Nat.min_eq_right (by omega), List.drop_of_length_le (by omega), List.drop_of_length_le (by omega)]

theorem pys_ints : ∀ ns : List Int, D.pys (ns.map D.int) = some (ns.map PyData.int)
  | [] => by simp [D.pys]
  | n :: ns => by simp [D.pys, D.py, pys_ints ns]
theorem eqP_ints {q : Bool → Prop} {xs ys : List Int} (h : q (decide (xs = ys))) : eqP (.lst (xs.map .int)) (.lst (ys.map .int)) q := by
  unfold eqP
  exact ⟨.list (xs.map .int), .list (ys.map .int), by simp only [D.py, pys_ints], by simp only [D.py, pys_ints], shaped_list _, shaped_list _, by simp only [PyData.eqv, eqv_ints]; exact h⟩
theorem eqP_tints {q : Bool → Prop} {xs ys : List Int} (h : q (decide (xs = ys))) : eqP (.tup (xs.map .int)) (.tup (ys.map .int)) q := by
  unfold eqP
  exact ⟨.tuple (xs.map .int), .tuple (ys.map .int), by simp only [D.py, pys_ints], by simp only [D.py, pys_ints], shaped_tuple _, shaped_tuple _, by simp only [PyData.eqv, eqv_ints]; exact h⟩
theorem snoc {α : Type} (r : List α) : r = [] ∨ ∃ l z, r = l ++ [z] := by
  cases h : r.getLast? with
  | none => exact .inl (List.getLast?_eq_none_iff.mp h)
  | some z =>
    obtain ⟨l, rfl⟩ := List.getLast?_eq_some_iff.mp h
    exact .inr ⟨l, z, rfl⟩
theorem pys_ne (r : List Int) : D.pys (r.map D.int) ≠ none := by rw [pys_ints]; simp
theorem pys_sh (r : List Int) : ∀ x, D.pys (r.map D.int) = some x → SeqAt.shaped (PyData.list x) = true := fun x h => by
  rw [pys_ints] at h
  cases h
  exact shaped_list _
/-- (tuple of ints, int) == (tuple of ints, int) -/
theorem eqP_ti {q : Bool → Prop} {xs ys : List Int} {a b : Int} (h : q (decide ((xs, a) = (ys, b)))) : eqP (.tup [.tup (xs.map .int), .int a]) (.tup [.tup (ys.map .int), .int b]) q := by
  unfold eqP
  refine ⟨.tuple [.tuple (xs.map .int), .int a], .tuple [.tuple (ys.map .int), .int b], by simp only [D.py, D.pys, pys_ints], by simp only [D.py, D.pys, pys_ints], ?_, ?_, ?_⟩
  · unfold SeqAt.shaped
    simp [PyData.canLay0, PyData.canLayAll0, PyData.depth, PyData.depthAll, lay_ints, depth_ints]
  · unfold SeqAt.shaped
    simp [PyData.canLay0, PyData.canLayAll0, PyData.depth, PyData.depthAll, lay_ints, depth_ints]
  · have e : PyData.eqv (.tuple [.tuple (xs.map .int), .int a]) (.tuple [.tuple (ys.map .int), .int b]) = decide ((xs, a) = (ys, b)) := by
      simp only [PyData.eqv, PyData.eqvAll, eqv_ints]
      rw [Bool.eq_iff_iff]
      simp
    rw [e]
    exact h
theorem log_of {n : Int} (h : Sm n) : n.natAbs.log2 < 1920 := by
  unfold Sm at h
  by_cases c : n.natAbs = 0
  · rw [c]; decide
  · exact Nat.lt_trans ((Nat.log2_lt c).mpr h) (by decide)
theorem sm_abs {n : Int} (h : n.natAbs ≤ 10 ^ 250) : Sm n := by
  unfold Sm
  have : (10 : Nat) ^ 250 < 2 ^ 1900 := by decide +kernel
  omega
theorem sm500 {n : Int} (h : n.natAbs ≤ 10 ^ 500) : Sm n := by
  unfold Sm
  have : (10 : Nat) ^ 500 < 2 ^ 1900 := by decide +kernel
  omega
theorem sm_lil {n : Int} (h1 : -1000000000000 ≤ n) (h2 : n ≤ 1000000000000) : Sm n := by
  unfold Sm
  have : 10 ^ 12 < 2 ^ 1900 := by decide +kernel
  omega
end Eb

/-! ## own layer: the head's facts, looked at in the kernel over the heap that the top leaves (in the place of k_head, k_is) -/
namespace Eb
namespace HK
open PySem PySem.Spec PyProof.Rows L2
section
variable {chk : Fg → Bool} {fns : List Dq} {tabs : List Tab} {w : World} {K : Fg}
theorem Says.chk_ (c : Says chk fns tabs w K) : chk K = true := congrArg (fun z : Al => z.1) c
theorem Says.fn_ (c : Says chk fns tabs w K) (i : Nat) {d : Dq} (h : fns[i]? = some d := by rfl) : fnW K d.ad = d.val := by
  have e : fns.map (fun d => fnW K d.ad) = fns.map Dq.val := congrArg (fun z : Al => z.2.1) c
  have e2 : (fns.map fun d => fnW K d.ad)[i]? = (fns.map Dq.val)[i]? := by rw [e]
  rw [List.getElem?_map, List.getElem?_map, h] at e2
  exact Option.some.inj e2
theorem Says.tab_ (c : Says chk fns tabs w K) (i : Nat) {t : Tab} (h : tabs[i]? = some t := by rfl) : ∃ es n, KDict K w t.1 es n := by
  have e : tabs.map (fun t => He.dicW K t.1) = tabs.map fun t => some (He.keysIn w.params t.2) := congrArg (fun z : Al => z.2.2) c
  have e2 : (tabs.map fun t => He.dicW K t.1)[i]? = (tabs.map fun t => some (He.keysIn w.params t.2))[i]? := by rw [e]
  rw [List.getElem?_map, List.getElem?_map, h] at e2
  exact He.dicW_ok (Option.some.inj e2)
/-- one of many looks -/
theorem look {bs : List Bool} (h : bs.all id = true) (i : Nat) {b : Bool} (e : bs[i]? = some b := by rfl) : b = true := List.all_eq_true.mp h b (List.mem_of_getElem? e)
theorem ba {a b : Bool} (h : (a && b) = true) : a = true ∧ b = true := Bool.and_eq_true_iff.mp h
end
/-! ### looks -/
theorem eqO_ok {a b : Option (Option Value)} (h : eqO a b = true) : a = b := of_decide_eq_true h
section
variable {K : Fg} {h : Heap} {mg : Str → Option Value} {C f p : Addr}
theorem glo_ok (X : K.In h) (G : h.Ns mainGlobals mg) {x : Str} (c : gloB K x f = true) : mg x = some (.ref f) := PySem.W.mg_of X G (eqO_ok c)
theorem free_ok (X : K.In h) (G : h.Ns mainGlobals mg) {x : Str} (c : freeB K x = true) : mg x = none := PySem.W.mg_none_of X G (eqO_ok c)
theorem con_ok (X : K.In h) (G : h.Ns mainGlobals mg) {x : Str} {v : V} (c : conB K x v = true) : ∃ u, mg x = some u ∧ RelV v u := by
  unfold conB at c
  split at c
  · rename_i u e
    exact ⟨u, PySem.W.mg_of X G e, He.relB_ok c⟩
  · cases c
theorem cls_ok (c : clsB K C = true) : Cls K C := by
  obtain ⟨c1, c⟩ := ba c
  obtain ⟨c2, c⟩ := ba c
  obtain ⟨c3, c4⟩ := ba c
  exact ⟨c1, c2, c3, eqO_ok c4⟩
theorem noa_ok {x : Str} (c : noaB K C x = true) : NoAttr K C x := eqO_ok c
theorem met_ok {m : Str} (c : metB K C m f = true) : Meth K C m f := by
  obtain ⟨c1, c⟩ := ba c
  obtain ⟨c2, c3⟩ := ba c
  exact ⟨eqO_ok c1, c2, c3⟩
theorem mk_ok (c : mkB K C f = true) : Mk K C f := by
  obtain ⟨c1, c⟩ := ba c
  obtain ⟨c2, c⟩ := ba c
  obtain ⟨c3, c4⟩ := ba c
  exact ⟨c1, eqO_ok c2, c3, c4⟩
theorem ref_ok {nm : String} (c : refB K C nm = true) : RefO K C nm := by
  obtain ⟨c1, c⟩ := ba c
  obtain ⟨c2, c3⟩ := ba c
  obtain ⟨fo, h2⟩ := Option.isSome_iff_exists.mp c2
  obtain ⟨ro, h3⟩ := Option.isSome_iff_exists.mp c3
  cases e : PySem.W.findIn K (.ref C) (dunderR nm) with
  | none => rw [e] at c1; cases c1
  | some rc =>
    rw [e] at c1
    refine ⟨rc, fo, ro, e, ?_, h2, h3⟩
    cases rc with
    | none => exact .inl rfl
    | some v =>
      cases v with
      | ref g => exact .inr ⟨g, rfl⟩
      | _ => cases c1
theorem noi_ok {nm : String} (c : noiB K C nm = true) : NoI K C nm := by
  obtain ⟨c1, c⟩ := ba c
  obtain ⟨c2, c3⟩ := ba c
  cases e : PySem.W.clsIn K C with
  | none => rw [e] at c1; cases c1
  | some cd =>
    rw [e] at c1
    exact ⟨⟨cd, e, of_decide_eq_true c1⟩, eqO_ok c2, eqO_ok c3⟩
theorem rec_ok {T : String} (c : recB K p T f = true) : ∃ rest, PySem.W.recIn K p T = some (.ref f :: rest) := by
  unfold recB at c
  split at c
  · rename_i g r e
    rw [of_decide_eq_true c] at e
    exact ⟨r, e⟩
  · cases c
theorem prop_ok {m : Str} (c : propB K C m p f = true) : ∃ pa, PropOf K C m pa f := by
  obtain ⟨c1, c⟩ := ba c
  obtain ⟨c2, c⟩ := ba c
  obtain ⟨c3, c4⟩ := ba c
  exact ⟨p, eqO_ok c1, eqO_ok c2, of_decide_eq_true c3, rec_ok c4⟩
theorem cm_ok {m : Str} (c : cmB K C m p f = true) : ∃ mc pm, ClX.CRead K C mc ∧ ClX.CMet K C mc m pm f := by
  obtain ⟨c1, c⟩ := ba c
  obtain ⟨a1, a2⟩ := ba c1
  obtain ⟨c2, c⟩ := ba c
  obtain ⟨c3, c4⟩ := ba c
  refine ⟨.type "type", p, ⟨a1, eqO_ok a2⟩, ⟨?_, rec_ok c3, c4⟩⟩
  split at c2
  · rename_i g x y z e
    obtain ⟨b1, b⟩ := ba c2
    obtain ⟨b2, b⟩ := ba b
    obtain ⟨b3, b4⟩ := ba b
    rw [e, of_decide_eq_true b1, of_decide_eq_true b2, of_decide_eq_true b3, of_decide_eq_true b4]
  · cases c2
theorem neo_ok (c : neoB K C = true) : PySem.W.findIn K (.ref C) "__ne__" = some (some (.builtin "object.__ne__")) ∧ PySem.W.subIn K (.ref C) (.type "object") = some true := by
  obtain ⟨c1, c2⟩ := ba c
  exact ⟨eqO_ok c1, of_decide_eq_true c2⟩
theorem exc_ok (c : excB K C = true) : ExcC K C := by
  obtain ⟨c1, c⟩ := ba c
  obtain ⟨c2, c⟩ := ba c
  obtain ⟨c3, c⟩ := ba c
  obtain ⟨c4, c⟩ := ba c
  obtain ⟨c5, c⟩ := ba c
  obtain ⟨c6, c⟩ := ba c
  obtain ⟨c7, c8⟩ := ba c
  exact ⟨eqO_ok c1, eqO_ok c2, of_decide_eq_true c3, c4, eqO_ok c5, eqO_ok c6, of_decide_eq_true c7, of_decide_eq_true c8⟩
theorem exm_ok {D : Addr} {b : Bool} (c : exmB K C D b = true) : PySem.W.exmOne K (.ref C) (.ref D) = some b := of_decide_eq_true c
theorem kit_ok {t c : Value} {b : Bool} (h : kitB K t c b = true) : PySem.W.kitOne K t c = some b := of_decide_eq_true h
end
end HK
end Eb
namespace Eb
namespace HK
open PySem PySem.Spec PyProof.Rows L2
theorem bind1 {K : Fg} {x qual : Str} {st : Stmt} {f : Addr} {fd : FuncData} {y : Str} (F : Fun K x qual st f fd)
    (h : ∀ (kV doc pm : Value) (an : Option Addr) (cdv ct u : Value), bindArgs (PySem.W.fnOf x qual (defArgs st) (defBody st) (defScope st) .none kV doc pm an cdv ct) ⟨[u], []⟩ = pure [(y, u)]) : ∀ (s : Shared) (u : Value), BindsTo s fd ⟨[u], []⟩ [(y, u)] := fun s u => by
  obtain ⟨oc, od, kV, doc, pm, an, cdv, ct, osl, rfl, _⟩ := F.ex
  exact .of_eq (h kV doc pm an cdv ct u)
theorem kw_ok {K : Fg} {Dk : Addr} {x : Str} {i : Int} (h : kwB K Dk x i = true) : ∃ tk, PySem.W.nsIn K Dk x = some (some (.int i tk)) := by
  unfold kwB at h
  split at h
  · rename_i j tk e
    rw [of_decide_eq_true h] at e
    exact ⟨tk, e⟩
  · cases h
theorem ko_ok {K : Fg} {d : Dq} {Dk : Addr} {x : Str} {i : Int} (e : fnW K d.ad = d.val) (c : fnB K d.ad d.qual [] .none (.ref Dk) = true) (k : kwB K Dk x i = true) :
    ∃ (oc : Value) (od : Option Addr) (doc pm : Value) (an : Option Addr) (cdv ct : Value) (osl : Array (Option Value)) (Dk : Addr) (tk : Tok), K.lookup d.ad = some ⟨oc, od, .func (PySem.W.fnOf d.name d.qual (defArgs d.st) (defBody d.st) (defScope d.st) .none (.ref Dk) doc pm an cdv ct), osl⟩ ∧ PySem.W.codeIn K cdv d.qual = true ∧ PySem.W.nsIn K Dk x = some (some (.int i tk)) := by
  obtain ⟨oc, od, osl, doc, pm, an, cdv, ct, h1, h2⟩ := fn_get e c
  obtain ⟨tk, h3⟩ := kw_ok k
  exact ⟨oc, od, doc, pm, an, cdv, ct, osl, Dk, tk, h1, h2, h3⟩
end HK
end Eb

/-! ## own: set(l) of a list of ints (turned from the kit's tuple case), sorted(set(l)) -/
namespace Eb
open PySem PySem.Spec PyProof.Rows L2
set_option maxRecDepth 100000
abbrev So (w : World) : Obj := { cls := .type "set", dict := none, data := .set #[] 0 (.fresh 0 0 (!w.params.followText "set-order")) }
section
variable {P : Program} {w : World} {A : Around} {E : Value → Shared → Prop} {s : Shared}
theorem call_setL {l : Addr} {us : Array Value} (ns : List Int) {Q : Value → Shared → Prop} (hA : A.handled = none) (hL : s.heap.IsList l us) (hI : IntsAre us.toList ns) (hn : ns.length + 1 < scanBound)
    (fin : ∀ (h' : Heap) (tk c : Nat), SetR w h' s.heap.objs.size (fun j => decide (j ∈ ns)) c → c ≤ ns.length → (∀ b o, s.heap.get? b = some o → h'.get? b = some o) → Q (.ref s.heap.objs.size) { s with heap := h', toks := tk }) :
    wpAny (model P w) A (call (.type "set") [.ref l]) Q E s := by
  have sz : us.size = ns.length := by have := IntsAre.length hI; rwa [Array.length_toList] at this
  obtain ⟨c, tl, mro⟩ := F.called_set.mro
  have made := F.called_set.made
  have sub := F.called_set.sub
  refine wpAny_call (codeAny_of_tree (show wpAny _ _ (callAny (.type "set") _) _ _ _ from ?_))
  refine wpAny_pure ⟨Code.quiet_builtin _ (by decide +kernel), codeAny_builtin F.entry_type_call (?_ : wpAny _ _ _ _ _ _)⟩
  rw [Around.under_plain (weight_type_call_type "set" [.ref l] []) (by rfl)]
  have n1 := F.called_set.notType
  have n2 := F.called_set.canCreate
  have n3 := F.typeCall_set_1 (.ref l)
  repeat any_goals (first | assumption | wp_step)
  refine codeAny_mono (code_set_led1 (.ref l) (E := E) (Q₁ := fun ob t => ob = .ref s.heap.objs.size ∧ t = { s with heap := s.heap.push (So w) }) ⟨rfl, rfl⟩) fun r t hr => ?_
  cases r with
  | error e => exact hr
  | ok fl =>
    cases fl with
    | ret ob =>
      obtain ⟨rfl, rfl⟩ := hr
      have g0 : (s.heap.push (So w)).get? s.heap.objs.size = some (So w) := Heap.get?_push_size _ rfl
      have t0 : Shared.TypeIs { s with heap := s.heap.push (So w) } (.ref s.heap.objs.size) "set" := ⟨_, g0, rfl⟩
      have i1 := F.called_set.init.lookup
      have i2 := F.called_set.init.bind (.ref s.heap.objs.size)
      repeat any_goals (first | assumption | wp_step)
      refine codeAny_mono (codeAny_call_builtin (R := wants (fun r t => r = .none ∧ ∃ h' tk c, t = { s with heap := h', toks := tk } ∧ SetR w h' s.heap.objs.size (fun j => decide (j ∈ ns)) c ∧ c ≤ ns.length ∧ ∀ b o, s.heap.get? b = some o → h'.get? b = some o) E) F.called_set.init.plain F.entry_set_init (check_set_init_1 t0 ?_)) fun r2 t2 hr2 => ?_
      · obtain ⟨⟨lc, ld, lx, lz⟩, lo, e1, nl, e2⟩ := hL
        simp only at e1 e2
        subst e1
        subst e2
        have lo2 : (s.heap.push (So w)).get? l = some { cls := .type "list", dict := ld, data := .seq us nl, slots := lz } := Heap.get?_push_of_some _ lo
        have m1 := F.sub_list_set
        have m2 := F.sub_list_frozenset
        have m3 : (Value.type "list" == Value.type "dict") = false := rfl
        have L1 : (s.heap.push (So w)).IsList l us := ⟨_, lo2, rfl, nl, rfl⟩
        unfold Builtin.«set.__init__» Builtin.Frozenset.updateFrom noKeywords
        generalize ep : pyIter = PI
        wp_walk
        subst ep
        refine wpAny_pyIter_list L1 (wpAny_bind (wpAny_runValue ?_))
        have lS : l < s.heap.objs.size := Heap.lt_size lo
        have h3 : A.in1.in1.in1.handled = none := by simp [hA]
        have psz : (s.heap.push (So w)).objs.size = s.heap.objs.size + 1 := Heap.size_push ..
        have nI : l ≠ (s.heap.push (So w)).objs.size := by rw [psz]; exact Nat.ne_of_lt (Nat.lt_succ_of_lt lS)
        have nS : s.heap.objs.size ∉ [(s.heap.push (So w)).objs.size, l] := by
          rw [psz]
          simp only [List.mem_cons, List.not_mem_nil, or_false, not_or]
          exact ⟨Nat.ne_of_lt (Nat.lt_succ_self _), (Nat.ne_of_lt lS).symm⟩
        have vals : ∀ (i : Nat) (v : Value), us[i]? = some v → ∃ k t, ns[i]? = some k ∧ v = .int k t := fun i v hv => by
          have li : i < ns.length := by rw [← sz]; exact (Array.getElem?_eq_some_iff.mp hv).1
          obtain ⟨t, e⟩ := IntsAre.int_at hI i v (by rw [Array.getElem?_toList]; exact hv)
          refine ⟨ns[i], t, List.getElem?_eq_getElem li, e.trans ?_⟩
          rw [List.getD_eq_getElem?_getD, List.getElem?_eq_getElem li]
          rfl
        refine set_update_ints ((Walks.list h3 _ l nI us).toS) s.heap.objs.size nS ns sz hn vals (us.size - 0) 0 _ (by omega) (Nat.zero_le _) ⟨⟨_, Heap.get?_push_size _ rfl, rfl, rfl⟩, (L1.push _)⟩ ⟨0, Nat.le_refl 0, setR_new_at (Heap.get?_push_of_some _ g0)⟩ fun t c' mv lc' R' => ?_
        obtain ⟨h', g', d', tk', os'⟩ := t
        have q1 : g' = s.gens := mv.gens
        have q2 : d' = s.drawn := mv.drawn
        have q3 : os' = s.os := mv.os
        subst q1 q2 q3
        rw [sz] at lc'
        show wpAny _ _ _ _ _ _
        refine wpAny_pure (show wpAny _ _ (ret Value.none) _ _ _ from ?_)
        refine wpAny_pure ⟨rfl, h', tk', c', rfl, R', lc', fun b o e => ?_⟩
        have lb : b < s.heap.objs.size := Heap.lt_size e
        refine mv.heap b o ?_ (Heap.get?_push_of_some _ (Heap.get?_push_of_some _ e))
        rw [psz]
        simp only [List.mem_cons, List.not_mem_nil, or_false, not_or]
        exact ⟨Nat.ne_of_lt lb, Nat.ne_of_lt (Nat.lt_succ_of_lt lb)⟩
      · cases r2 with
        | error e => exact hr2
        | ok f2 =>
          cases f2 with
          | ret r =>
            obtain ⟨rfl, h', tk, c', rfl, R', lc', kp⟩ := hr2
            repeat any_goals (first | assumption | wp_step)
            exact fin h' tk c' R' lc' kp
          | _ => exact hr2.elim
    | _ => exact hr.elim
end
section
variable {X : Cx}
/-- sorted(set(l)): the unlike ones, ascending -/
def tSortSet (K : PySem.W.Frag) (ta : TE) : TE := fun σ H Q => ta σ H fun x H1 => ∃ (l : Addr) (ns : List Int), x = .ref l ∧ SqL K H1 l (ns.map V.int) ∧ ns.length < 60 ∧ ∀ (ks : List Int) (p : Addr), ks.Pairwise (· < ·) → (∀ z, z ∈ ks ↔ z ∈ ns) → H1 p = none → Q (.ref p) (upd H1 p (.lst (ks.map V.int)))
theorem pe_sortSet {a : Expr} {ta : TE} {p p2 q pos : Pos} (hg : Gl X "sorted") (hm : X.mg "sorted" = none) (hg2 : Gl X "set") (hm2 : X.mg "set" = none) (ha : PE X a ta) (hc : X.calm = true := by rfl)
    (na : starEach [a] X.env = (false, eval a X.env) :: starEach [] X.env := by rfl) : PE X (.Call (.Name "sorted" p) [.Call (.Name "set" p2) [a] [] q] [] pos) (tSortSet X.K ta) := by
  refine ⟨fun pins s σ H Q I h => Call_ (ld_blt I hg hm boot_sorted ?_)⟩
  refine PyProof.Rows.callWith_builtin1 (PyProof.Rows.args_cons (Call_ (ld_blt I hg2 hm2 boot_set ?_)) rfl) rfl rfl
  refine PyProof.Rows.callWith_type1 (PyProof.Rows.args_cons (thn (ha.run pins s σ H _ I h) fun v s1 hh => PyProof.Rows.args_nil ?_) na) na rfl
  obtain ⟨x, H1, I1, r1, l, ns, rfl, hq, hl, k⟩ := hh
  cases r1
  obtain ⟨its, r, pt, hz⟩ := I1.list hq
  refine call_setL ns (I1.ok.hd hc) pt.isList (by simpa using r.ints) (by unfold scanBound; omega) fun h' tk c R1 hcn keep => PyProof.Rows.args_nil ?_
  have I2 : Inv X pins σ H1 { s1 with heap := h', toks := tk } := I1.kept keep
  refine sorted_set R1 (I2.ok.hd hc) (by omega) fun s' p out c2 ks kp g o hp hgt hi hs hmm hlen => ?_
  have hlen2 : (ks.map V.int).length ≤ sizeLine := by rw [List.length_map, hlen, sizeLine_eq]; omega
  have hn : H1 p = none := I2.hok.fresh hp
  generalize hs2 : ({ s1 with heap := h', toks := tk } : Shared) = s2 at *
  have J : Inv X pins σ (upd H1 p (.lst (ks.map V.int))) { s2 with heap := s'.heap, gens := s'.gens, drawn := s'.drawn, toks := s'.toks } :=
    I2.call (ch := []) (Un.laid kp hp hn) (I2.hok.laid kp hp ⟨hlen2, out.toList, c2, vals_of_ints hi, hgt⟩) (by rw [g]; exact I2.bare) (fun _ z => nomatch z)
  have e : s' = { s2 with heap := s'.heap, gens := s'.gens, drawn := s'.drawn, toks := s'.toks } := by
    cases s'; cases s2; cases o; rfl
  rw [e]
  exact ⟨.ref p, _, J, rfl, k ks p hs (fun z => by rw [hmm z]; exact decide_eq_true_iff) hn⟩
end
end Eb

/-! ## own layer: sorted(set(l)) -/
namespace Eb
open PySem PySem.Spec PyProof.Rows L2 StX
section
variable {X : Cx} {Λ : Lx} {w : WX} {a : Expr} {ta : DE} {pos p p2 q : Pos}
/-- the unlike ones, ascending -/
def dSortSet (t : DE) : DA := fun env q x => t env (fun d => ∃ ns : List Int, d = .lst (ns.map .int) ∧ ns.length < 60 ∧ ∀ ks : List Int, ks.Pairwise (· < ·) → (∀ z, z ∈ ks ↔ z ∈ ns) → q (ks.map .int)) x
theorem xl_sortSet (hg : Gl X "sorted") (hm : X.mg "sorted" = none) (hg2 : Gl X "set") (hm2 : X.mg "set" = none) (ha : XE X Λ w a ta) (hc : X.calm = true := by rfl)
    (na : starEach [a] X.env = (false, eval a X.env) :: starEach [] X.env := by rfl) : XL X Λ w (.Call (.Name "sorted" p) [.Call (.Name "set" p2) [a] [] q] [] pos) (dSortSet ta) := ⟨fun hK => by
  obtain ⟨r, pp, s⟩ := ha.ex hK
  refine ⟨_, pe_sortSet hg hm hg2 hm2 pp hc na, fun env W σ H Q q x S hx h k => s env W σ H _ _ x S hx h fun d v H1 h1 S1 e1 r1 => ?_⟩
  obtain ⟨ns, rfl, hl, h1⟩ := h1
  obtain ⟨l, vs, rfl, h4, r4⟩ := rep_lst r1
  cases r4.ints
  rw [hK]
  refine ⟨l, ns, rfl, sqL_of h4, hl, fun ks p hs hz hp => ?_⟩
  refine k (ks.map .int) p (ks.map V.int) _ (h1 ks hs hz) (S1.grow (same_new hp)) (e1.trans (.of (same_new hp))) (e1.free hp) upd_same RepL.of_ints⟩
end
end Eb

/-! ## own: sets of bases that go on by rests; their least form -/
namespace Eb
namespace Per
/-- from s on, f comes round after p -/
def EvP (f : Nat → Bool) (s p : Nat) : Prop := ∀ b, s ≤ b → f (b + p) = f b
theorem EvP.mul {f : Nat → Bool} {s p : Nat} (h : EvP f s p) (k : Nat) : ∀ b, s ≤ b → f (b + k * p) = f b := by
  induction k with
  | zero => intro b _; simp
  | succ k ih =>
    intro b hb
    have e : b + (k + 1) * p = b + k * p + p := by rw [Nat.add_mul]; omega
    rw [e, h _ (by omega), ih b hb]
theorem EvP.up {f : Nat → Bool} {s t p : Nat} (h : EvP f s p) (ht : s ≤ t) : EvP f t p := fun b hb => h b (by omega)
theorem EvP.mod {f : Nat → Bool} {s p b c : Nat} (h : EvP f s p) (hb : s ≤ b) (hc : s ≤ c) (e : b % p = c % p) : f b = f c := by
  have key : ∀ {x y : Nat}, s ≤ x → x ≤ y → x % p = y % p → f x = f y := fun {x y} hx hxy hm => by
    obtain ⟨k, hk⟩ : p ∣ y - x := Nat.dvd_of_mod_eq_zero (Nat.sub_mod_eq_zero_of_mod_eq hm.symm)
    have : y = x + k * p := by rw [Nat.mul_comm]; omega
    rw [this, h.mul k x hx]
  rcases Nat.le_total b c with l | l
  · exact key hb l e
  · exact (key hc l e.symm).symm
theorem EvP.gcd {f : Nat → Bool} {s : Nat} (p q : Nat) : EvP f s p → EvP f s q → EvP f s (Nat.gcd p q) := by
  induction p, q using Nat.gcd.induction with
  | H0 n => intro _ h; rw [Nat.gcd_zero_left]; exact h
  | H1 m n hm ih =>
    intro h1 h2
    rw [Nat.gcd_rec]
    refine ih (fun b hb => ?_) h1
    have e := h1.mul (n / m) (b + n % m) (by omega)
    have e2 : b + n % m + n / m * m = b + n := by
      have := Nat.div_add_mod n m
      rw [Nat.mul_comm] at this
      omega
    rw [e2] at e
    rw [← e, h2 b hb]
/-- the least period that divides one is the least of all -/
theorem least_of {f : Nat → Bool} {s n d : Nat} (hn : 1 ≤ n) (h : EvP f s n) (hd : ∀ e, 1 ≤ e → e ∣ n → EvP f s e → d ≤ e) : ∀ s' p', 1 ≤ p' → EvP f s' p' → d ≤ p' := fun s' p' hp h' => by
  have g1 : EvP f (max s s') (Nat.gcd n p') := EvP.gcd n p' (h.up (Nat.le_max_left ..)) (h'.up (Nat.le_max_right ..))
  have g2 : EvP f s (Nat.gcd n p') := fun b hb => by
    have k1 := h.mul (max s s') b hb
    have k2 := h.mul (max s s') (b + Nat.gcd n p') (by omega)
    have le : max s s' ≤ b + max s s' * n := by
      have : max s s' * 1 ≤ max s s' * n := Nat.mul_le_mul_left _ hn
      omega
    have k3 := g1 (b + max s s' * n) le
    rw [← k1, ← k2, ← k3]
    congr 1
    omega
  have := hd _ (Nat.gcd_pos_of_pos_left _ hn) (Nat.gcd_dvd_left ..) g2
  exact Nat.le_trans this (Nat.gcd_le_right _ hp)
/-- the least form -/
structure Can (f : Nat → Bool) (s p : Nat) (rs ls : List Nat) : Prop where
  s2 : 2 ≤ s
  p1 : 1 ≤ p
  per : EvP f s p
  mp : ∀ s' p', 1 ≤ p' → EvP f s' p' → p ≤ p'
  ms : s = 2 ∨ f (s - 1 + p) ≠ f (s - 1)
  rs_ : rs = (List.range p).filter fun r => f (r + p * s)
  ls_ : ls = (List.range s).filter fun b => decide (2 ≤ b) && f b
theorem EvP.congr {f g : Nat → Bool} {s p : Nat} (h : EvP f s p) (e : ∀ b, 2 ≤ b → f b = g b) (h2 : 2 ≤ s) : EvP g s p := fun b hb => by rw [← e _ (by omega), ← e _ (by omega)]; exact h b hb
theorem Can.congr {f g : Nat → Bool} {s p : Nat} {rs ls : List Nat} (h : Can f s p rs ls) (e : ∀ b, 2 ≤ b → f b = g b) : Can g s p rs ls where
  s2 := h.s2
  p1 := h.p1
  per := h.per.congr e h.s2
  mp := fun s' p' hp h' => h.mp (max 2 s') p' hp ((h'.up (Nat.le_max_right ..)).congr (fun b hb => (e b hb).symm) (Nat.le_max_left ..))
  ms := by
    rcases h.ms with m | m
    · exact .inl m
    · by_cases s2 : s = 2
      · exact .inl s2
      · have := h.s2
        rw [e _ (by omega), e _ (by omega)] at m
        exact .inr m
  rs_ := by
    rw [h.rs_]
    refine List.filter_congr fun r _ => e _ ?_
    have := Nat.mul_le_mul h.p1 h.s2
    omega
  ls_ := by
    rw [h.ls_]
    refine List.filter_congr fun b _ => ?_
    by_cases c : 2 ≤ b
    · rw [e b c]
    · simp [c]
theorem Can.uniq {f : Nat → Bool} {s p s' p' : Nat} {rs ls rs' ls' : List Nat} (h : Can f s p rs ls) (h' : Can f s' p' rs' ls') : s = s' ∧ p = p' ∧ rs = rs' ∧ ls = ls' := by
  have ep : p = p' := Nat.le_antisymm (h.mp s' p' h'.p1 h'.per) (h'.mp s p h.p1 h.per)
  subst ep
  have es : s = s' := by
    have key : ∀ {s s' : Nat} {rs ls rs' ls'}, Can f s p rs ls → Can f s' p rs' ls' → s' ≤ s := fun {s s' _ _ _ _} h h' => by
      rcases h'.ms with m | m
      · have := h.s2; omega
      · refine Nat.le_of_not_lt fun lt => m (h.per (s' - 1) (by omega))
    exact Nat.le_antisymm (key h' h) (key h h')
  subst es
  exact ⟨rfl, rfl, by rw [h.rs_, h'.rs_], by rw [h.ls_, h'.ls_]⟩
/-- whether a base is in it, by the least form -/
theorem Can.has {f : Nat → Bool} {s p : Nat} {rs ls : List Nat} (h : Can f s p rs ls) {b : Nat} (hb : 2 ≤ b) : f b = if b < s then decide (b ∈ ls) else decide (b % p ∈ rs) := by
  have p1 := h.p1
  split
  · rename_i c
    rw [h.ls_]
    simp [c, hb]
  · rename_i c
    have lt : b % p < p := Nat.mod_lt b p1
    have e : f (b % p + p * s) = f b := by
      refine (h.per.mod ?_ (by omega) ?_).symm.symm
      · have := Nat.mul_le_mul_right s p1
        omega
      · rw [Nat.add_mul_mod_self_left, Nat.mod_mod]
    rw [h.rs_, ← e]
    simp [lt]
theorem Can.rest {f : Nat → Bool} {s p : Nat} {rs ls : List Nat} (h : Can f s p rs ls) (r : Nat) (b : Nat) (hb : s ≤ b) (e : b % p = r) : decide (r ∈ rs) = f b := by
  have := h.has (b := b) (by have := h.s2; omega)
  rw [if_neg (by omega), e] at this
  exact this.symm
theorem can_le {f : Nat → Bool} {s p S N : Nat} {rs ls : List Nat} (h : Can f s p rs ls) (hN : 1 ≤ N) (h2 : 2 ≤ S) (e : EvP f S N) : s ≤ S ∧ p ∣ N := by
  constructor
  · rcases h.ms with m | m
    · omega
    · refine Nat.le_of_not_lt fun lt => m ?_
      have e1 := e.mul s (s - 1 + p) (by omega)
      have e2 := e.mul s (s - 1) (by omega)
      have le : s * 1 ≤ s * N := Nat.mul_le_mul_left _ hN
      have e3 := h.per (s - 1 + s * N) (by omega)
      rw [← e1, ← e2, ← e3]
      congr 1
      omega
  · have g := EvP.gcd p N (h.per.up (Nat.le_max_left s S)) (e.up (Nat.le_max_right s S))
    have le := h.mp _ _ (Nat.gcd_pos_of_pos_right _ hN) g
    have : Nat.gcd p N = p := Nat.le_antisymm (Nat.gcd_le_left _ h.p1) le
    rw [← this]
    exact Nat.gcd_dvd_right ..
/-! ### a list of marks that comes round -/
theorem rep_get {α : Type} (xs : List α) : ∀ (k i : Nat), i < k * xs.length → ((List.replicate k xs).flatten)[i]? = xs[i % xs.length]?
  | 0, i, h => by omega
  | k + 1, i, h => by
    rw [List.replicate_succ, List.flatten_cons]
    by_cases c : i < xs.length
    · rw [List.getElem?_append_left c, Nat.mod_eq_of_lt c]
    · rw [Nat.add_mul, Nat.one_mul] at h
      rw [List.getElem?_append_right (by omega), rep_get xs k (i - xs.length) (by omega)]
      congr 1
      exact (Nat.mod_eq_sub_mod (by omega)).symm
theorem rep_len {α : Type} (xs : List α) (k : Nat) : (List.replicate k xs).flatten.length = k * xs.length := by
  simp
/-- marks == marks[:d] * (len(marks) // d) -/
theorem rep_iff {ms : List Bool} {d : Nat} (h1 : 1 ≤ d) (hd : d ∣ ms.length) (hn : 1 ≤ ms.length) : ms = (List.replicate (ms.length / d) (ms.take d)).flatten ↔ EvP (fun b => ms.getD (b % ms.length) false) 0 d := by
  have dle : d ≤ ms.length := Nat.le_of_dvd hn hd
  have tl : (ms.take d).length = d := by rw [List.length_take]; omega
  have ml : ms.length / d * d = ms.length := Nat.div_mul_cancel hd
  constructor
  · intro h b _
    have at_ : ∀ i, i < ms.length → ms.getD i false = ms.getD (i % d) false := fun i hi => by
      have md := Nat.mod_lt i h1
      rw [List.getD_eq_getElem?_getD, List.getD_eq_getElem?_getD]
      conv => lhs; rw [h]
      rw [rep_get _ _ _ (by rw [tl, ml]; exact hi), tl, List.getElem?_take_of_lt md]
    have m1 := Nat.mod_lt (b + d) hn
    have m2 := Nat.mod_lt b hn
    show ms.getD ((b + d) % ms.length) false = ms.getD (b % ms.length) false
    rw [at_ _ m1, at_ _ m2, Nat.mod_mod_of_dvd _ hd, Nat.mod_mod_of_dvd _ hd, Nat.add_mod_right]
  · intro h
    refine List.ext_getElem? fun i => ?_
    by_cases c : i < ms.length
    · rw [rep_get _ _ _ (by rw [tl, ml]; exact c), tl, List.getElem?_take_of_lt (Nat.mod_lt i h1)]
      have md : i % d < ms.length := Nat.lt_of_lt_of_le (Nat.mod_lt i h1) dle
      have := h.mod (b := i) (c := i % d) (Nat.zero_le _) (Nat.zero_le _) (by rw [Nat.mod_mod])
      simp only [Nat.mod_eq_of_lt c, Nat.mod_eq_of_lt md, List.getD_eq_getElem?_getD, List.getElem?_eq_getElem c, List.getElem?_eq_getElem md, Option.getD_some] at this
      rw [List.getElem?_eq_getElem c, List.getElem?_eq_getElem md, this]
    · rw [List.getElem?_eq_none (by omega), List.getElem?_eq_none (by rw [rep_len, tl, ml]; omega)]
/-- the set with marks for the bases from 2 on, then with marks by rests -/
def fset (lone ms : List Bool) (b : Nat) : Bool := if b < 2 + lone.length then lone.getD (b - 2) false else ms.getD (b % ms.length) false
/-- what is settled is the least form -/
theorem settle {lone ms : List Bool} {d k : Nat} (hn : 1 ≤ ms.length) (d1 : 1 ≤ d) (dd : d ∣ ms.length) (hp : EvP (fun b => ms.getD (b % ms.length) false) 0 d) (hm : ∀ e, 1 ≤ e → e < d → e ∣ ms.length → ¬ EvP (fun b => ms.getD (b % ms.length) false) 0 e)
    (kl : k ≤ lone.length) (ht : ∀ j, k ≤ j → j < lone.length → lone.getD j false = ms.getD ((2 + j) % d) false) (hk : k = 0 ∨ lone.getD (k - 1) false ≠ ms.getD ((2 + (k - 1)) % d) false) :
    Can (fset lone ms) (2 + k) d ((List.range d).filter fun r => ms.getD r false) (((List.range k).filter fun i => lone.getD i false).map (2 + ·)) := by
  have tail : ∀ b, 2 + k ≤ b → fset lone ms b = ms.getD (b % d) false := fun b hb => by
    unfold fset
    split
    · rename_i c
      have := ht (b - 2) (by omega) (by omega)
      rw [show 2 + (b - 2) = b by omega] at this
      exact this
    · have e := hp.mod (b := b) (c := b % d) (Nat.zero_le _) (Nat.zero_le _) (by rw [Nat.mod_mod])
      have lt : b % d < ms.length := Nat.lt_of_lt_of_le (Nat.mod_lt b d1) (Nat.le_of_dvd hn dd)
      simp only [Nat.mod_eq_of_lt lt] at e
      exact e
  have per : EvP (fset lone ms) (2 + k) d := fun b hb => by rw [tail b hb, tail (b + d) (by omega), Nat.add_mod_right]
  have back : ∀ e s', EvP (fset lone ms) s' e → EvP (fun b => ms.getD (b % ms.length) false) (s' + 2 + lone.length) e := fun e s' h b hb => by
    have k1 := h b (by omega)
    unfold fset at k1
    rw [if_neg (by omega), if_neg (by omega)] at k1
    exact k1
  have m1 : EvP (fun b => ms.getD (b % ms.length) false) 0 ms.length := fun b _ => by
    show ms.getD ((b + ms.length) % ms.length) false = _
    rw [Nat.add_mod_right]
  refine ⟨by omega, d1, per, fun s' p' hp' h' => ?_, ?_, ?_, ?_⟩
  · refine least_of hn m1 (fun e e1 ed he => Nat.le_of_not_lt fun lt => hm e e1 lt ed he) _ p' hp' (back p' s' h')
  · rcases hk with z | z
    · exact .inl (by omega)
    · by_cases k0 : k = 0
      · exact .inl (by omega)
      · refine .inr fun h => z ?_
        rw [tail (2 + k - 1 + d) (by omega), Nat.add_mod_right] at h
        unfold fset at h
        rw [if_pos (by omega)] at h
        rw [show 2 + (k - 1) = 2 + k - 1 by omega, h, show k - 1 = 2 + k - 1 - 2 by omega]
  · refine List.filter_congr fun r hr => ?_
    have hr' := List.mem_range.mp hr
    rw [tail _ (by have := Nat.mul_le_mul_right (2 + k) d1; omega), Nat.add_mul_mod_self_left, Nat.mod_eq_of_lt hr']
  · have : List.range (2 + k) = [0, 1] ++ (List.range k).map (2 + ·) := by rw [List.range_add]; rfl
    rw [this, List.filter_append, List.filter_map]
    have e0 : [0, 1].filter (fun b => decide (2 ≤ b) && fset lone ms b) = [] := by simp
    rw [e0, List.nil_append]
    congr 1
    refine List.filter_congr fun i hi => ?_
    have hi' := List.mem_range.mp hi
    show _ = (decide (2 ≤ 2 + i) && fset lone ms (2 + i))
    unfold fset
    rw [if_pos (by omega), show 2 + i - 2 = i by omega]
    simp
/-! ### the law's own way to the least form -/
theorem rot_iff {f : Nat → Bool} {s n d : Nat} (hn : 1 ≤ n) (h : EvP f s n) : (∀ i, i < n → f (s + i) = f (s + (i + d) % n)) ↔ EvP f s d := by
  have e : ∀ i, f (s + (i + d) % n) = f (s + i + d) := fun i => by
    refine h.mod (by omega) (by omega) ?_
    rw [Nat.add_assoc, Nat.add_mod, Nat.mod_mod, ← Nat.add_mod]
  constructor
  · intro k b hb
    have m := Nat.mod_lt (b - s) hn
    have k1 := k ((b - s) % n) m
    rw [e] at k1
    have e1 : f (s + (b - s) % n) = f b := h.mod (by omega) hb (by rw [Nat.add_mod, Nat.mod_mod, ← Nat.add_mod]; congr 1; omega)
    have e2 : f (s + (b - s) % n + d) = f (b + d) := h.mod (by omega) (by omega) (by
      rw [show s + (b - s) % n + d = (b - s) % n + (s + d) by omega, Nat.add_mod, Nat.mod_mod, ← Nat.add_mod]
      congr 1
      omega)
    rw [← e1, ← e2, k1]
  · intro k i _
    rw [e, k (s + i) (by omega)]
theorem told_can {f : Nat → Bool} {s n d t : Nat} {rs ls : List Nat} (hn : 1 ≤ n) (h : EvP f s n) (d1 : 1 ≤ d) (hd : EvP f s d) (hm : ∀ e, 1 ≤ e → e < d → e ∣ n → ¬ EvP f s e) (t2 : 2 ≤ t) (ht : EvP f t d) (hs : t = 2 ∨ f (t - 1) ≠ f (t - 1 + d))
    (er : rs = (List.range d).filter fun r => f (r + d * t)) (el : ls = (List.range t).filter fun b => decide (2 ≤ b) && f b) : Can f t d rs ls :=
  ⟨t2, d1, ht, least_of hn h fun e e1 ed he => Nat.le_of_not_lt fun lt => hm e e1 lt ed he, hs.imp_right fun z y => z y.symm, er, el⟩
/-- ascending lists with the same things are the same -/
theorem asc_eq : ∀ {xs ys : List Nat}, xs.Pairwise (· < ·) → ys.Pairwise (· < ·) → (∀ z, z ∈ xs ↔ z ∈ ys) → xs = ys
  | [], [], _, _, _ => rfl
  | [], y :: ys, _, _, h => by have := (h y).mpr List.mem_cons_self; cases this
  | x :: xs, [], _, _, h => by have := (h x).mp List.mem_cons_self; cases this
  | x :: xs, y :: ys, hx, hy, h => by
    rw [List.pairwise_cons] at hx hy
    have e : x = y := by
      have h1 := (h x).mp List.mem_cons_self
      have h2 := (h y).mpr List.mem_cons_self
      rcases List.mem_cons.mp h1 with q | q
      · exact q
      · rcases List.mem_cons.mp h2 with r | r
        · exact r.symm
        · have a := hy.1 x q
          have b := hx.1 y r
          omega
    subst e
    congr 1
    refine asc_eq hx.2 hy.2 fun z => ⟨fun q => ?_, fun q => ?_⟩
    · rcases List.mem_cons.mp ((h z).mp (List.mem_cons_of_mem _ q)) with r | r
      · have := hx.1 z q; omega
      · exact r
    · rcases List.mem_cons.mp ((h z).mpr (List.mem_cons_of_mem _ q)) with r | r
      · have := hy.1 z q; omega
      · exact r
theorem asc_filter (n : Nat) (p : Nat → Bool) : ((List.range n).filter p).Pairwise (· < ·) := List.Pairwise.filter p List.pairwise_lt_range
end Per
end Eb
namespace Eb
namespace Per
/-! ### how many -/
def cntI (f : Nat → Bool) (a n : Nat) : Nat := ((List.range n).filter fun i => f (a + i)).length
theorem cntI_add (f : Nat → Bool) (a m n : Nat) : cntI f a (m + n) = cntI f a m + cntI f (a + m) n := by
  unfold cntI
  rw [List.range_add, List.filter_append, List.length_append, List.filter_map, List.length_map]
  congr 2
  refine List.filter_congr fun i _ => ?_
  show f (a + (m + i)) = f (a + m + i)
  rw [Nat.add_assoc]
theorem cntI_congr {f g : Nat → Bool} {a b n : Nat} (h : ∀ i, i < n → f (a + i) = g (b + i)) : cntI f a n = cntI g b n := by
  unfold cntI
  congr 1
  exact List.filter_congr fun i hi => h i (List.mem_range.mp hi)
theorem cntI_one (f : Nat → Bool) (a : Nat) : cntI f a 1 = if f a then 1 else 0 := by
  unfold cntI
  rw [show List.range 1 = [0] from rfl]
  cases h : f a with
  | true => rw [List.filter_cons_of_pos (by rw [Nat.add_zero]; exact h)]; simp
  | false => rw [List.filter_cons_of_neg (by rw [Nat.add_zero, h]; simp)]; simp
/-- one round is as good as another -/
theorem cntI_turn {f : Nat → Bool} {s p : Nat} (h : EvP f s p) : ∀ k, cntI f (s + k) p = cntI f s p
  | 0 => rfl
  | k + 1 => by
    have ih := cntI_turn h k
    have e1 := cntI_add f (s + k) 1 p
    have e2 := cntI_add f (s + k) p 1
    rw [Nat.add_comm 1 p, e2] at e1
    rw [cntI_one, cntI_one, show s + k + p = (s + k) + p from rfl, h (s + k) (by omega)] at e1
    rw [show s + (k + 1) = s + k + 1 by omega]
    omega
theorem cntI_rounds {f : Nat → Bool} {s p : Nat} (h : EvP f s p) (t l : Nat) : cntI f s (t * p + l) = t * cntI f s p + cntI f s l := by
  induction t with
  | zero => simp
  | succ t ih =>
    rw [show (t + 1) * p + l = p + (t * p + l) by rw [Nat.add_mul]; omega, cntI_add]
    have : cntI f (s + p) (t * p + l) = cntI f s (t * p + l) := cntI_congr fun i _ => by rw [show s + p + i = s + i + p by omega, h (s + i) (by omega)]
    rw [this, ih, Nat.add_mul]
    omega
/-- how many are below n -/
def cnt (f : Nat → Bool) (n : Nat) : Nat := ((List.range n).filter fun b => decide (2 ≤ b) && f b).length
theorem cnt_add (f : Nat → Bool) {s : Nat} (hs : 2 ≤ s) (n : Nat) : cnt f (s + n) = cnt f s + cntI f s n := by
  unfold cnt cntI
  rw [List.range_add, List.filter_append, List.length_append, List.filter_map, List.length_map]
  congr 2
  refine List.filter_congr fun i _ => ?_
  show (decide (2 ≤ s + i) && f (s + i)) = f (s + i)
  rw [decide_eq_true (by omega), Bool.true_and]
theorem Can.round {f : Nat → Bool} {s p : Nat} {rs ls : List Nat} (h : Can f s p rs ls) : rs.length = cntI f s p := by
  rw [h.rs_, ← cntI_turn h.per (p * s - s)]
  unfold cntI
  congr 1
  refine List.filter_congr fun r _ => ?_
  have := Nat.mul_le_mul_right s h.p1
  rw [show s + (p * s - s) + r = r + p * s by omega]
theorem cnt_split (f g : Nat → Bool) (n : Nat) : cnt (fun b => f b || g b) n + cnt (fun b => f b && g b) n = cnt f n + cnt g n := by
  unfold cnt
  induction n with
  | zero => rfl
  | succ n ih =>
    rw [List.range_succ]
    simp only [List.filter_append, List.length_append]
    have : ∀ (p : Nat → Bool), ([n].filter p).length = if p n then 1 else 0 := fun p => by
      cases h : p n with
      | true => rw [List.filter_cons_of_pos h]; simp
      | false => rw [List.filter_cons_of_neg (by rw [h]; simp)]; simp
    rw [this, this, this, this]
    dsimp only at ih ⊢
    cases decide (2 ≤ n) <;> cases f n <;> cases g n <;> simp <;> omega
theorem cnt_not (f : Nat → Bool) (n : Nat) : cnt f n + cnt (fun b => !f b) n = n - 2 := by
  unfold cnt
  induction n with
  | zero => rfl
  | succ n ih =>
    rw [List.range_succ]
    simp only [List.filter_append, List.length_append]
    have : ∀ (p : Nat → Bool), ([n].filter p).length = if p n then 1 else 0 := fun p => by
      cases h : p n with
      | true => rw [List.filter_cons_of_pos h]; simp
      | false => rw [List.filter_cons_of_neg (by rw [h]; simp)]; simp
    rw [this, this]
    dsimp only at ih ⊢
    by_cases c : 2 ≤ n
    · rw [decide_eq_true c]
      cases f n <;> simp <;> omega
    · rw [decide_eq_false c]
      simp
      omega
theorem Can.few {f : Nat → Bool} {s p : Nat} {rs ls : List Nat} (h : Can f s p rs ls) (n : Nat) (hn : n ≤ s) : (ls.filter fun b => decide (b < n)).length = cnt f n := by
  rw [h.ls_]
  unfold cnt
  rw [List.filter_filter]
  have e : List.range s = List.range n ++ (List.range (s - n)).map (n + ·) := by
    conv => lhs; rw [show s = n + (s - n) by omega]
    exact List.range_add
  rw [e, List.filter_append, List.filter_map]
  have z : (List.range (s - n)).filter ((fun a => decide (a < n) && (decide (2 ≤ a) && f a)) ∘ fun x => n + x) = [] := by
    rw [List.filter_eq_nil_iff]
    intro a _
    show ¬ ((decide (n + a < n) && _) = true)
    rw [decide_eq_false (by omega)]
    simp
  rw [z, List.map_nil, List.append_nil]
  congr 1
  refine List.filter_congr fun b hb => ?_
  rw [decide_eq_true (List.mem_range.mp hb), Bool.true_and]
end Per
end Eb

/-! ## own: x != y of an own class that has __eq__ alone; the truth of an instance with __bool__ -/
namespace Eb
open PySem PySem.Spec PyProof.Rows L2
set_option maxRecDepth 100000
section
variable {P : Program} {w : World} {A : Around} {E : Value → Shared → Prop} {s : Shared} {K : PySem.W.Frag} {x C f : Addr} {ox : Obj} {od : Option Obj}
/-- a special of an instance that is a built-in slot -/
theorem ifBoundB {M : Model} {T : String} {name : Str} {id : String} {args : List Value} {Q : Option Value → Shared → Prop} (X : K.In s.heap) (I : PySem.W.InstAt s.heap x ox C od) (hs : PySem.W.findIn K (.ref C) name = some (some (.builtin id))) (S : Slot T name id)
    (h : wpAny M A (call (.builtin id) (.ref x :: args)) (fun v => Q (some v)) E s) : wpAny M A (callSpecialIfBound? (.ref x) name args) Q E s := by
  have done : wpAny M A (call (.builtin id) ([.ref x] ++ args) >>= fun v => pure (some v)) Q E s := wpAny_bind (wpAny_mono h (fun v t z => wpAny_pure z) fun _ _ z => z)
  simp only [bindSpecialIfBound?, callSpecialIfBound?]
  refine wpAny_holding (wpAny_bind (wpAny_bind (wpAny_bind (I.type.here ((PySem.W.looks_findIn X hs).here (show wpAny _ _ _ _ _ _ from ?_))))))
  simp only [S.bind]
  refine wpAny_bind (wpAny_askSetting (wpAny_ite ?_))
  split
  · exact wpAny_bind (wpAny_pure (wpAny_pure (by exact done)))
  · exact wpAny_tryCatch (wpAny_bind (wpAny_pure (wpAny_pure (by exact done))))
theorem check_ne {M : Model} {y : Value} {Q : Unit → Shared → Prop} (X : K.In s.heap) (I : PySem.W.InstAt s.heap x ox C od) (hc : PySem.W.subIn K (.ref C) (.type "object") = some true) (h : Q () s) : wpAny M A (checkBuiltinCall "object.__ne__" ⟨[.ref x, y], []⟩) Q E s := by
  simp only [checkBuiltinCall, F.cmpKind_ne, F.cmpSplit_ne]
  refine wpAny_bind ?_
  unfold isInstance
  refine wpAny_bind (I.type.here ((PySem.W.looks_subIn X hc).here ?_))
  have ok := F.cmpArgs_ne (.ref x) y
  unfold argsOk at ok
  simp only [Bool.not_true, Bool.false_eq_true, if_false]
  split
  · rename_i sig e
    rw [e] at ok
    exact wpAny_of_eq ok h
  · exact wpAny_pure h
/-- x != y where the class has __eq__ and no __ne__ -/
theorem ne_own {y : Addr} {ox2 : Obj} {od2 : Option Obj} {Q : Value → Shared → Prop} (hu : A.units + 1 < cLine) (X : K.In s.heap) (I : PySem.W.InstAt s.heap x ox C od) (J : PySem.W.InstAt s.heap y ox2 C od2) (hn : PySem.W.findIn K (.ref C) "__ne__" = some (some (.builtin "object.__ne__"))) (hc : PySem.W.subIn K (.ref C) (.type "object") = some true)
    (hs : PySem.W.findIn K (.ref C) "__eq__" = some (some (.ref f))) (hf : PySem.W.isFn K (.ref f) = true) (h : wpAny (model P w) A.in1 (call (.ref f) [.ref x, .ref y]) (fun v t => ∃ b, v = .bool b ∧ Q (.bool (!b)) t) E s) : wpAny (model P w) A (richCompare .NotEq (.ref x) (.ref y)) Q E s := by
  have one : wpAny (model P w) A (tryCompare (.ref x) "__ne__" (.ref y)) (fun r t => ∃ b, r = some (.bool b) ∧ Q (.bool b) t) E s := by
    simp only [tryCompare]
    refine wpAny_bind (ifBoundB X I hn PySem.F.cmp_object.ne (wpAny_call (codeAny_call_builtin PySem.F.cmp_object.ne.plain F.cmpEntry_ne (check_ne X I hc ?_))))
    unfold Builtin.«object.__ne__»
    have eqc : wpAny (model P w) A.in1 (callSpecialIfBound? (.ref x) (Str.ofString "__eq__") [.ref y]) (fun r t => ∃ b, r = some (.bool b) ∧ Q (.bool (!b)) t) E s :=
      PySem.W.ifBound_K X I hs hf (wpAny_mono h (fun v t z => by obtain ⟨b, rfl, q⟩ := z; exact ⟨b, rfl, q⟩) fun _ _ z => z)
    have hu1 : A.in1.units < cLine := by have : A.in1.units ≤ A.units + 1 := by simp [Around.in1]
                                         omega
    refine wpAny_bind (wpAny_of_eq (show slotArgs "__ne__" 1 ⟨[.ref x, .ref y], []⟩ = pure (.ref x, [.ref y]) from rfl) ?_)
    refine wpAny_bind (wpAny_cRoomFor hu1 (wpAny_bind (wpAny_mono eqc (fun r t z => ?_) fun _ _ z => z)))
    obtain ⟨b, rfl, q⟩ := z
    refine wpAny_bind (wpAny_truthy_bool (wpAny_pure ?_))
    exact wpAny_pure ⟨_, rfl, q⟩
  unfold richCompare
  simp only [oneThing_ref]
  refine wpAny_holding (wpAny_bind (wpAny_cRoomFor (Nat.lt_of_succ_lt hu) ?_))
  refine wpAny_bind (I.type.here (wpAny_bind (J.type.here ?_)))
  rw [cmpInfo_NotEq, show (Value.ref C != Value.ref C) = false from by simp]
  simp only [Bool.false_eq_true, if_false]
  refine wpAny_bind (wpAny_pure ?_)
  simp only [Bool.false_eq_true, if_false]
  refine wpAny_bind (wpAny_mono one (fun r t z => ?_) fun _ _ z => z)
  obtain ⟨b, rfl, q⟩ := z
  exact wpAny_pure q
/-- bool(x), by the truth of x -/
theorem bool_own {Q : Value → Shared → Prop} (h : wpAny (model P w) A.in1.in1 (truthy (.ref x)) (fun b t => Q (.bool b) t) E s) : wpAny (model P w) A (call (.type "bool") [.ref x]) Q E s := by
  refine callType_codes (T := "bool") (Bi := Builtin.«object.__init__») (Q₁ := fun r t => ∃ b, r = .bool b ∧ Q r t) PySem.F.called_bool (PySem.F.typeCall_bool_1 _) PySem.F.entry_object_init ?_ ?_
  · refine codeAny_of_tree ?_
    show wpAny _ A.in1.in1 (do checkBuiltinCall "bool.__new__" ⟨[.type "bool", .ref x], []⟩; again (.builtin "bool.__new__" ⟨[.type "bool", .ref x], []⟩)) _ _ s
    refine wpAny_bind (wpAny_of_eq (PySem.F.newCall_bool_1 _) (wpAny_pure ⟨plainId_quiet (by decide +kernel) _, codeAny_builtin PySem.F.entry_bool_new (?_ : wpAny _ _ _ _ _ _)⟩))
    rw [Around.under_plainId (by decide +kernel) _]
    have sub := PySem.F.conv_sub_bool
    have h2 : wpAny (model P w) A.in1.in1 (truthy (.ref x)) (fun b t => ∃ c, Value.bool b = .bool c ∧ Q (.bool b) t) E s := wpAny_mono h (fun b t z => ⟨b, rfl, z⟩) fun _ _ z => z
    unfold Builtin.«bool.__new__»
    generalize ht : truthy = TR at h2 ⊢
    repeat any_goals (first | assumption | wp_step)
    exact wpAny_mono h2 (fun b t z => wpAny_pure z) fun _ _ z => z
  · rintro obj t ⟨b, rfl, q⟩
    exact ⟨PySem.typeIs_bool _ _, PySem.F.args_object_init_2 _ _, object_init_meets PySem.F.called_bool.init.lookup PySem.F.called_bool.made (by decide) P w A.in1 _ t ⟨PySem.typeIs_bool _ _, rfl, q⟩⟩
end
end Eb

/-! ## own layer: x != y and the truth of own instances -/
namespace Eb
open PySem PySem.Spec PyProof.Rows L2 StX
section
variable {X : Cx} {CX : CXT} {n : Nat} {C g : Addr} {sp : Sp} {E : XK}
def rNe2 (C : Addr) (sp : Sp) (E : XK) : R2 := fun x y H Q => ∃ a b, x = .ref a ∧ y = .ref b ∧ InsO H a C ∧ InsO H b C ∧ sp [.ref a, .ref b] H (fun z H' => ∃ k, z = .bl k ∧ Q (.bl (!k)) H') E
/-- the class has __eq__ and object's own __ne__ -/
structure NeO (K : PySem.W.Frag) (C : Addr) : Prop where
  ne : PySem.W.findIn K (.ref C) "__ne__" = some (some (.builtin "object.__ne__"))
  ob : PySem.W.subIn K (.ref C) (.type "object") = some true
theorem op_ne2 (hn : NeO X.K C) (hs : PySem.W.findIn X.K (.ref C) "__eq__" = some (some (.ref g))) (hf : PySem.W.isFn X.K (.ref g) = true) (F : FnR X.prog X.w X.K X.mg X.base CX n g sp) (hr : Room (n + 1) X.A) (hx : Passes CX X E) : OpR X (compareOp .NotEq) (rNe2 C sp E) := by
  intro pins s σ H x y v u Q I rx ry h
  obtain ⟨a, b, rfl, rfl, ha, hb, q⟩ := h
  cases (show v = Value.ref a from rx)
  cases (show u = Value.ref b from ry)
  obtain ⟨ox, od, J⟩ := insO_at I ha
  obtain ⟨ox', od', J'⟩ := insO_at I hb
  have hu := hr.units
  refine ne_own (by omega) I.kIn J J' hn.ne hn.ob hs hf ?_
  refine wpAny_mono (wpAny_call (SlX.run_at (us := [.ref a, .ref b]) (ws := [.ref a, .ref b]) F hr.in1 I.env0.in1 hx I (.cons rfl (.cons rfl .nil)) q)) (fun w s' z => ?_) fun _ _ x => x
  obtain ⟨z', H', I', rz, k, ek, qz⟩ := z
  subst ek
  cases (show w = Value.bool k from rz)
  exact ⟨k, rfl, .bl (!k), H', I', rfl, qz⟩
/-- the truth of an instance, by its __bool__ -/
theorem tru_own (hs : PySem.W.findIn X.K (.ref C) "__bool__" = some (some (.ref g))) (hf : PySem.W.isFn X.K (.ref g) = true) (F : FnR X.prog X.w X.K X.mg X.base CX n g sp) (hr : Room n X.A) (hx : Passes CX X E) {pins : List (Addr × Obj)} {s : Shared} {σ : L2.St} {H : Hp} {a : Addr} {Q : Bool → Hp → Prop} (I : Inv X pins σ H s) (ha : InsO H a C)
    (q : sp [.ref a] H (fun z H' => ∃ k, z = .bl k ∧ Q k H') E) : wpAny (model X.prog X.w) X.A (truthy (.ref a)) (fun c s' => ∃ H', Inv X pins σ H' s' ∧ Q c H') X.xe s := by
  obtain ⟨ox, od, J⟩ := insO_at I ha
  obtain ⟨m, hF⟩ := I.fr
  refine PySem.W.truthy_K hF I.ok.mod.kin J hs hf ?_
  refine wpAny_mono (wpAny_call (run_fnR (us := [.ref a]) (vs := [.ref a]) F hr hx I (.cons rfl .nil) q)) (fun w s' z => ?_) fun _ _ x => x
  obtain ⟨z', H', I', rz, k, ek, qz⟩ := z
  subst ek
  cases (show w = Value.bool k from rz)
  exact ⟨H', I', qz⟩
def rTru (C : Addr) (sp : Sp) (E : XK) (x : V) (H : Hp) (Q : Bool → Hp → Prop) : Prop := ∃ a, x = .ref a ∧ InsO H a C ∧ sp [.ref a] H (fun z H' => ∃ k, z = .bl k ∧ Q k H') E
theorem pt_truO {a : Expr} {ta : TE} (hs : PySem.W.findIn X.K (.ref C) "__bool__" = some (some (.ref g))) (hf : PySem.W.isFn X.K (.ref g) = true) (F : FnR X.prog X.w X.K X.mg X.base CX n g sp) (hr : Room n X.A) (hx : Passes CX X E) (ha : PE X a ta)
    (he : ∀ whole, isTrue a X.env whole = (do let v ← whole; standAt a.pos; holding [v] (truthy v))) : PT X a (fun σ H Q => ta σ H fun x H' => rTru C sp E x H' Q) := by
  refine ⟨fun pins s σ H Q I h => ?_⟩
  refine isTrue_plain (thn (ha.run pins s σ H _ I h) fun v s1 ⟨x, H1, I1, r1, b, ex, hb, q⟩ => ?_) (he _)
  subst ex
  cases (show v = Value.ref b from r1)
  exact tru_own hs hf F hr hx I1 hb q
theorem pe_notO {a : Expr} {ta : TE} {pos : Pos} (hs : PySem.W.findIn X.K (.ref C) "__bool__" = some (some (.ref g))) (hf : PySem.W.isFn X.K (.ref g) = true) (F : FnR X.prog X.w X.K X.mg X.base CX n g sp) (hr : Room n X.A) (hx : Passes CX X E) (ha : PE X a ta) :
    PE X (.UnaryOp .Not a pos) (fun σ H Q => ta σ H fun x H' => rTru C sp E x H' (fun k H2 => Q (.bl (!k)) H2)) := by
  refine ⟨fun pins s σ H Q I h => ?_⟩
  refine UnaryOp_ (thn (ha.run pins s σ H _ I h) fun v s1 ⟨x, H1, I1, r1, b, ex, hb, q⟩ => ?_)
  subst ex
  cases (show v = Value.ref b from r1)
  exact not_of (thn (tru_own hs hf F hr hx I1 hb q) fun c s2 ⟨H2, I2, q2⟩ => ⟨.bl (!c), H2, I2, rfl, q2⟩)
/-- bool(x) of an own instance -/
def rBoolOwn (C : Addr) (sp : Sp) (E : XK) : List V → Hp → VK → Prop := fun xs H Q => ∃ a, xs = [V.ref a] ∧ InsO H a C ∧ sp [.ref a] H (fun z H' => ∃ k, z = .bl k ∧ Q (.bl k) H') E
theorem call_boolOwn (hs : PySem.W.findIn X.K (.ref C) "__bool__" = some (some (.ref g))) (hf : PySem.W.isFn X.K (.ref g) = true) (F : FnR X.prog X.w X.K X.mg X.base CX n g sp) (hr : Room (n + 2) X.A) (hx : Passes CX X E) : CallR X (.type "bool") (rBoolOwn C sp E) := by
  intro pins s σ H xs us Q I r h
  obtain ⟨a, rfl, hsl, q⟩ := h
  obtain ⟨u, rfl, ru⟩ := r.one
  cases (show u = Value.ref a from ru)
  obtain ⟨ox, od, J⟩ := insO_at I hsl
  obtain ⟨m, hF⟩ := I.fr
  have hr2 : Room n X.A.in1.in1 := (show Room (n + 1) X.A.in1 from Room.in1 hr).in1
  refine bool_own (PySem.W.truthy_K hF I.ok.mod.kin J hs hf ?_)
  refine wpAny_mono (wpAny_call (SlX.run_at (us := [.ref a]) (ws := [.ref a]) F hr2 I.env0.in1.in1 hx I (.cons rfl .nil) q)) (fun w s' z => ?_) fun _ _ x => x
  obtain ⟨z', H', I', rz, k, ek, qz⟩ := z
  subst ek
  cases (show w = Value.bool k from rz)
  exact ⟨.bl k, H', I', rfl, qz⟩
end
section
variable {X : Cx} {Λ : Lx} {w : WX} {a b : Expr} {ta tb t : DE} {pos : Pos} {k : Nat} {f : Addr} {fd : FuncData} {ps : List Str} {wp : DW}
def ne2D (c : Nat) (wp : DW) : D → D → DK := fun d e q _ => match d, e with
  | .obj c1 f1, .obj c2 f2 => c1 = c ∧ c2 = c ∧ wp [.obj c1 f1, .obj c2 f2] (fun z => match z with
    | .bl k => q (.bl (!k))
    | _ => False) (fun _ => False)
  | _, _ => False
theorem snd_ne2 {c : Nat} {E : XK} : SndR Λ w (rNe2 (Λ.B.C c) (spF0 Λ.B wp) E) (ne2D c wp) := fun env W σ H d e v u Q q x S hx r1 r2 h k => by
  cases d <;> cases e <;> first | exact h.elim | skip
  obtain ⟨rfl, rfl, h⟩ := h
  obtain ⟨a1, rfl, i1⟩ := rep_ins r1
  obtain ⟨a2, rfl, i2⟩ := rep_ins r2
  refine ⟨a1, a2, rfl, rfl, i1, i2, call0 S (RepL.cons r1 (RepL.cons r2 RepL.nil)) h fun d v H' hd S' ev rp => ?_⟩
  cases d <;> first | exact hd.elim | skip
  rename_i kk
  cases rp
  exact ⟨kk, rfl, k _ _ H' hd S' ev rfl⟩
def truO (c : Nat) (wp : DW) (d : D) (q : Bool → Prop) : Prop := match d with
  | .obj c1 f1 => c1 = c ∧ wp [.obj c1 f1] (fun z => match z with
    | .bl k => q k
    | _ => False) (fun _ => False)
  | _ => False
theorem snd_truO {c : Nat} {E : XK} {env : List Sl} {W : Ow} {σ : L2.St} {H : Hp} {d : D} {v : V} {q : Bool → Prop} {Q : Bool → Hp → Prop} (S : StOk Λ env W σ H) (r : Rep Λ.B (Λ.vis W H) d v) (h : truO c wp d q) (k : ∀ b H', q b → StOk Λ env W σ H' → Ev Λ W H H' → Q b H') : rTru (Λ.B.C c) (spF0 Λ.B wp) E v H Q := by
  cases d <;> first | exact h.elim | skip
  obtain ⟨rfl, h⟩ := h
  obtain ⟨a1, rfl, i1⟩ := rep_ins r
  refine ⟨a1, rfl, i1, call0 S (RepL.cons r RepL.nil) h fun d v H' hd S' ev rp => ?_⟩
  cases d <;> first | exact hd.elim | skip
  rename_i kk
  cases rp
  exact ⟨kk, rfl, k kk H' hd S' ev⟩
def dTruO (c : Nat) (wp : DW) (t : DE) : DT := fun env q x => t env (fun d => truO c wp d q) x
theorem xt_truO {c : Nat} (hs : PySem.W.findIn X.K (.ref (Λ.B.C c)) "__bool__" = some (some (.ref f))) (hf : PySem.W.isFn X.K (.ref f) = true) (F : FnR X.prog X.w X.K X.mg X.base CX0 k f (spF0 Λ.B wp)) (hr : Room k X.A) (ha : XE X Λ w a ta) (he : ∀ whole, isTrue a X.env whole = (do let v ← whole; standAt a.pos; holding [v] (truthy v))) : XT X Λ w a (dTruO c wp ta) := ⟨fun hK => by
  obtain ⟨ra, pa, sa⟩ := ha.ex hK
  refine ⟨_, pt_truO (E := E0) hs hf F hr pass0 pa he, fun env W σ H Q q x S hx h k => sa env W σ H _ _ x S hx h fun d v H1 h1 S1 e1 r1 => ?_⟩
  exact snd_truO S1 r1 h1 fun b H' hb S' ev => k b H' hb S' (e1.trans ev)⟩
def dNotO (c : Nat) (wp : DW) (t : DE) : DE := fun env q x => t env (fun d => truO c wp d fun k => q (.bl (!k))) x
theorem xe_notO {c : Nat} (hs : PySem.W.findIn X.K (.ref (Λ.B.C c)) "__bool__" = some (some (.ref f))) (hf : PySem.W.isFn X.K (.ref f) = true) (F : FnR X.prog X.w X.K X.mg X.base CX0 k f (spF0 Λ.B wp)) (hr : Room k X.A) (ha : XE X Λ w a ta) : XE X Λ w (.UnaryOp .Not a pos) (dNotO c wp ta) := ⟨fun hK => by
  obtain ⟨ra, pa, sa⟩ := ha.ex hK
  refine ⟨_, pe_notO (E := E0) hs hf F hr pass0 pa, fun env W σ H Q q x S hx h k => sa env W σ H _ _ x S hx h fun d v H1 h1 S1 e1 r1 => ?_⟩
  exact snd_truO S1 r1 h1 fun b H' hb S' ev => k (.bl (!b)) (.bl (!b)) H' hb S' (e1.trans ev) rfl⟩
def boolOD (c : Nat) (wp : DW) : List D → DK := fun ds q _ => match ds with
  | [d] => truO c wp d fun k => q (.bl k)
  | _ => False
theorem snd_boolO {cc : Nat} {E : XK} : SndC Λ w (rBoolOwn (Λ.B.C cc) (spF0 Λ.B wp) E) (boolOD cc wp) := fun env W σ H ds vs Q q x S hx r h k => by
  unfold boolOD at h
  split at h
  · obtain ⟨v, rfl, r1⟩ := r.one_inv
    obtain ⟨a, rfl, i1, z⟩ := snd_truO (E := E) (Q := fun b H' => Q (.bl b) H') S r1 h fun b H' hb S' ev => k (.bl b) (.bl b) H' hb S' ev rfl
    exact ⟨a, rfl, i1, z⟩
  · exact h.elim
end
end Eb

/-! ## repr of data: defs that are run where no repr is under way -/
namespace Eb
open PySem PySem.Spec PyProof.Rows L2
/-- no repr is under way around -/
def Grd (A : Around) : Prop := A.guards = some []
/-- a def's promise where no repr is under way -/
structure FnG (P : Program) (w : World) (K : PySem.W.Frag) (mg : Str → Option Value) (base : Heap) (CX : CXT) (k : Nat) (f : Addr) (fd : FuncData) (ps : List Str) (sp : Sp) : Prop where
  len : ∀ vs H Q E, sp vs H Q E → vs.length = ps.length
  go : ∀ (A : Around) (out : List Env) (s : Shared) (H : Hp) (args : Args) (us : List Value) (vs : List V) (Q : VK) (E : XK), Grd A → Room k A → Env0 P w K mg base A out s H → BindsTo s fd args (ps.zip us) →
    Vals vs us → sp vs H Q E → codeAny (model P w) A (.call (.ref f) args) (CR CX out P w H s Q E) s
theorem FnG.of {P : Program} {w : World} {K : PySem.W.Frag} {mg : Str → Option Value} {base : Heap} {CX : CXT} {k : Nat} {f : Addr} {fd : FuncData} {ps : List Str} {sp : Sp} (F : FnOk P w K mg base CX k f fd ps sp) : FnG P w K mg base CX k f fd ps sp :=
  ⟨F.len, fun A out s H args us vs Q E _ => F.run A out s H args us vs Q E⟩
section
variable {P : Program} {w : World} {K : PySem.W.Frag} {mg : Str → Option Value} {base : Heap} {CX : CXT}
/-- a def of the text, by its body, where no repr is under way -/
theorem fun_g {x qual : Str} {st : Stmt} {f : Addr} {fd : FuncData} {N ps : List Str} {k : Nat} {sp : Sp} (F : Fun K x qual st f fd) (S : FnScope N ps (defScope st)) (len : ∀ vs H Q E, sp vs H Q E → vs.length = ps.length)
    (body : ∀ (cdv : Value) (A : Around) (out : List Env) (s : Shared) (H : Hp) (vs : List V) (Q : VK) (E : XK), Grd A → Room k (A.deeper (envOfC qual (defScope st) s.heap.objs.size f cdv)) → sp vs H Q E →
      ∃ t, PSs (cxOf CX0 P w K mg base N qual (defScope st) f cdv A out s H E).nox (defBody st) t ∧ t { nx := fun _ H' => Q .non H', rt := Q } (start N vs) H) : FnG P w K mg base CX0 (k + 1) f fd ps sp := by
  obtain ⟨oc, od, kV, doc, pm, an, cdv, ct, osl, rfl, lk, hcd⟩ := F.ex
  refine ⟨len, fun A out s H args us vs Q E hg hr e0 hb rv hsp => ?_⟩
  have there : ∀ b o, base.get? b = some o → s.heap.get? b = some o := fun b o e => (e0.bs b o e).1
  have KX : K.In s.heap := e0.mod.kin.keeps there
  refine codeAny_call_function hr.depth (KX _ _ lk) rfl S.co S.gen rfl (PySem.W.codeRec_of KX hcd) (hb _ _ _ _ ?_)
  refine wpAny_newFunctionEnv_cells S.kind (fun y hy => (S.par y.1 (List.of_mem_zip hy).1).imp id fun q => ⟨q, PySem.W.cellsFrom_some _ _ _ (.inl q)⟩) fun env he s1 ic => ?_
  subst he
  refine ⟨(e0.mod.nolimit.keeps there).keeps ic.toInCall.keep, codeAny_func ?_⟩
  obtain ⟨t, ht, hq⟩ := body cdv A out s H vs Q E hg (hr.deeper _) hsp
  refine wpAny_mono (ht.nox.run [] s1 (start N vs) H _ (inv_start S hr.hd e0 (len _ _ _ _ hsp) rv ic) hq) (fun fl s' hs => ?_) fun _ _ z => z
  cases fl with
  | next =>
    obtain ⟨_, H', J, q⟩ := hs
    exact ⟨.non, H', J.os, J.bare, J.base, J.hok, rfl, q⟩
  | ret u =>
    obtain ⟨v, _, H', J, rv', q⟩ := hs
    exact ⟨v, H', J.os, J.bare, J.base, J.hok, rv', q⟩
  | brk =>
    obtain ⟨_, _, _, z⟩ := hs
    exact z.elim
  | cont =>
    obtain ⟨_, _, _, z⟩ := hs
    exact z.elim
end
section
variable {X : Cx}
/-- f(e, ..) of such a def -/
theorem pe_callG {CX : CXT} {k : Nat} {f : Addr} {fd : FuncData} {ps : List Str} {sp : Sp} {x : Str} {p pos : Pos} {e : Expr} {es : List Expr} {t : TA} {E : XK} (hG : Grd X.A) (F : FnG X.prog X.w X.K X.mg X.base CX k f fd ps sp) (hr : Room k X.A) (hg : Gl X x)
    (hm : X.mg x = some (.ref f)) (hk : PySem.W.keepIn X.K (.ref f) = true) (hb : Binds X.K fd ps []) (hx : Passes CX X E) (ha : PA X (e :: es) t) (hdb : (x == ("__debug__" : Str)) = false := by decide)
    (he : starEach (e :: es) X.env = (false, eval e X.env) :: starEach es X.env := by rfl) (hpl : (backTo pos (starEach es X.env)).any (·.1) = false := by rfl) :
    PE X (.Call (.Name x p) (e :: es) [] pos) (tCall sp [] E t) := by
  refine ⟨fun pins s σ H Q I h => wpAny_Call_Name_kw (ld_glob I hg hm ?_ hdb)⟩
  refine PySem.W.callWith_K (h₀ := X.base) I.ok.mod.kin hk (thn (ha.run pos pins s σ H _ I h) fun us s1 hh => ?_) he hpl
  obtain ⟨vs, H1, I1, rv, q⟩ := hh
  refine ⟨I1.kIn, ?_⟩
  rw [List.append_nil] at q
  have hl : us.length = ps.length := rv.length.symm.trans (F.len _ _ _ _ q)
  have bt := hb s1 us I1.kIn (by rw [List.append_nil]; exact hl)
  rw [List.append_nil] at bt
  refine wpAny_call (codeAny_mono (F.go X.A X.stack s1 H1 ⟨us, []⟩ us vs Q E hG hr I1.env0 bt rv q) fun r s' hq => ?_)
  cases r with
  | error e => exact hx pins σ H1 s1 e s' I1 hq
  | ok fl =>
    cases fl with
    | ret u => exact I1.after hq
    | next => exact hq.elim
    | brk => exact hq.elim
    | cont => exact hq.elim
/-- an upper bound of the text that repr gives -/
def bnd : PyData → Nat
  | .none => 8
  | .bool _ => 8
  | .int _ => 1921
  | .str x => (reprText x).length
  | .list xs => bndAll xs + 3
  | .tuple xs => bndAll xs + 3
  | .dict _ => 0
where bndAll : List PyData → Nat
  | [] => 0
  | x :: r => bnd x + 2 + bndAll r
def noDict : PyData → Bool
  | .none | .bool _ | .int _ | .str _ => true
  | .list xs => noDictAll xs
  | .tuple xs => noDictAll xs
  | .dict _ => false
where noDictAll : List PyData → Bool
  | [] => true
  | x :: r => noDict x && noDictAll r
mutual
theorem shown_bnd : ∀ d : PyData, d.showable = true → noDict d = true → d.shown.length ≤ bnd d
  | .none, _, _ => by simp only [PyData.shown, bnd]; decide
  | .bool b, _, _ => by cases b <;> simp only [PyData.shown, bnd] <;> decide
  | .int i, h, _ => by
    simp only [PyData.shown, bnd]
    exact PyProof.Rows.int_text_len_1921 (by simpa [PyData.showable] using h)
  | .str x, _, _ => by simp only [PyData.shown, bnd]; exact Nat.le_refl _
  | .list xs, h, g => by
    simp only [PyData.shown, bnd]
    have a := listText_len_le (PyData.shownAll xs)
    have b := shownAll_bnd xs (by simpa [PyData.showable] using h) (by simpa [noDict] using g)
    omega
  | .tuple xs, h, g => by
    simp only [PyData.shown, bnd]
    have a := tupleText_len_le (PyData.shownAll xs)
    have b := shownAll_bnd xs (by simpa [PyData.showable] using h) (by simpa [noDict] using g)
    omega
  | .dict _, _, g => by simp [noDict] at g
theorem shownAll_bnd : ∀ xs : List PyData, PyData.showableAll xs = true → noDict.noDictAll xs = true → ((PyData.shownAll xs).map (·.length)).sum + 2 * (PyData.shownAll xs).length ≤ bnd.bndAll xs
  | [], _, _ => by simp [PyData.shownAll, bnd.bndAll]
  | x :: r, h, g => by
    have h' : x.showable = true ∧ PyData.showableAll r = true := by simpa [PyData.showableAll] using h
    have g' : noDict x = true ∧ noDict.noDictAll r = true := by simpa [noDict.noDictAll] using g
    have a := shown_bnd x h'.1 g'.1
    have b := shownAll_bnd r h'.2 g'.2
    simp only [PyData.shownAll, bnd.bndAll, List.map_cons, List.sum_cons, List.length_cons]
    omega
end
mutual
theorem dp_noDict {K : PySem.W.Frag} {H : Hp} : ∀ (d : PyData) (x : V), Dp K H x d → noDict d = true ∧ d.hasDict = false
  | .none, _, _ => ⟨rfl, by simp [PyData.hasDict]⟩
  | .bool _, _, _ => ⟨rfl, by simp [PyData.hasDict]⟩
  | .int _, _, _ => ⟨rfl, by simp [PyData.hasDict]⟩
  | .str _, _, _ => ⟨rfl, by simp [PyData.hasDict]⟩
  | .list ds, _, h => by
    cases h with
    | lst _ ha =>
      have q := dp_noDictAll ds _ ha
      exact ⟨by simpa [noDict] using q.1, by simpa [PyData.hasDict] using q.2⟩
  | .tuple ds, _, h => by
    cases h with
    | tup _ ha =>
      have q := dp_noDictAll ds _ ha
      exact ⟨by simpa [noDict] using q.1, by simpa [PyData.hasDict] using q.2⟩
  | .dict _, _, h => by cases h
theorem dp_noDictAll {K : PySem.W.Frag} {H : Hp} : ∀ (ds : List PyData) (xs : List V), DpAll K H xs ds → noDict.noDictAll ds = true ∧ PyData.hasDictAll ds = false
  | [], _, _ => ⟨rfl, by simp [PyData.hasDictAll]⟩
  | d :: ds, _, h => by
    cases h with
    | cons h1 h2 =>
      have a := dp_noDict d _ h1
      have b := dp_noDictAll ds _ h2
      exact ⟨by simp [noDict.noDictAll, a.1, b.1], by simp [PyData.hasDictAll, a.2, b.2]⟩
end
/-- repr(x) of data -/
def rRepr (K : PySem.W.Frag) : List V → Hp → VK → Prop := fun xs H Q => ∃ x d, xs = [x] ∧ Dp K H x d ∧ d.showable = true ∧ bnd d ≤ 16000000 ∧ d.depth ≤ 60 ∧ Q (.str d.shown) H
theorem call_repr (hG : Grd X.A) (hu : X.A.units + 64 < cLine) : CallR X (.builtin "repr") (rRepr X.K) := by
  intro pins s σ H xs us Q I r h
  obtain ⟨x, d, rfl, hd, sh, hb, dp, q⟩ := h
  obtain ⟨u, rfl, rx⟩ := vals1 r
  obtain ⟨nd, nd2⟩ := dp_noDict d x hd
  have hz : d.shown.length ≤ sizeLine := Nat.le_trans (shown_bnd d sh nd) (Nat.le_trans hb (by decide))
  obtain ⟨as, rd⟩ := Dp.reads I d x u hd rx
  cases hd with
  | non =>
    cases rx
    exact PySem.P.repr_of_none ⟨.str _, H, I.tok _, ⟨_, rfl⟩, by simpa only [PyData.shown] using q⟩
  | bl b =>
    cases rx
    exact PySem.P.repr_of_bool ⟨.str _, H, I.tok _, ⟨_, rfl⟩, by simpa only [PyData.shown] using q⟩
  | int i =>
    obtain ⟨t, rfl⟩ := rx
    exact PySem.P.repr_of_int (by simpa [PyData.showable] using sh) ⟨.str _, H, I.tok _, ⟨_, rfl⟩, by simpa only [PyData.shown] using q⟩
  | str y =>
    obtain ⟨t, rfl⟩ := rx
    exact PySem.P.repr_of_str ⟨.str _, H, I.tok _, ⟨_, rfl⟩, by simpa only [PyData.shown] using q⟩ (by simpa only [PyData.shown] using hz)
  | lst _ _ =>
    cases rx
    exact repr_of_reads' rd sh (fun z => by rw [nd2] at z; cases z) hG (by omega) (fun _ _ e => e) (fun h' u tk hk => ⟨.str _, H, I.kept hk, ⟨_, rfl⟩, q⟩) hz
  | tup _ _ =>
    cases rx
    exact repr_of_reads' rd sh (fun z => by rw [nd2] at z; cases z) hG (by omega) (fun _ _ e => e) (fun h' u tk hk => ⟨.str _, H, I.kept hk, ⟨_, rfl⟩, q⟩) hz
end

theorem bnd_ints : ∀ ns : List Int, bnd.bndAll (ns.map PyData.int) = 1923 * ns.length
  | [] => rfl
  | n :: r => by
    show bnd (.int n) + 2 + bnd.bndAll (r.map PyData.int) = 1923 * (r.length + 1)
    rw [bnd_ints r]
    show 1921 + 2 + _ = _
    omega
theorem show_ints : ∀ ns : List Int, (∀ n ∈ ns, Sm n) → PyData.showableAll (ns.map PyData.int) = true
  | [], _ => by simp [PyData.showableAll]
  | n :: r, h => by
    have a := (h n (by simp)).log
    simp only [List.map_cons, PyData.showableAll, PyData.showable, show_ints r (fun x hx => h x (by simp [hx])), Bool.and_true, decide_eq_true_eq]
    omega
/-- what repr asks of a list, a tuple of ints -/
theorem repL {ns : List Int} (hs : ∀ n ∈ ns, Sm n) (hl : ns.length ≤ 8000) : (PyData.list (ns.map PyData.int)).showable = true ∧ bnd (.list (ns.map PyData.int)) ≤ 16000000 ∧ (PyData.list (ns.map PyData.int)).depth ≤ 60 := by
  refine ⟨by simpa [PyData.showable] using show_ints ns hs, ?_, by simp [PyData.depth, depth_ints]⟩
  show bnd.bndAll (ns.map PyData.int) + 3 ≤ 16000000
  rw [bnd_ints]
  omega
theorem repT {ns : List Int} (hs : ∀ n ∈ ns, Sm n) (hl : ns.length ≤ 8000) : (PyData.tuple (ns.map PyData.int)).showable = true ∧ bnd (.tuple (ns.map PyData.int)) ≤ 16000000 ∧ (PyData.tuple (ns.map PyData.int)).depth ≤ 60 := by
  refine ⟨by simpa [PyData.showable] using show_ints ns hs, ?_, by simp [PyData.depth, depth_ints]⟩
  show bnd.bndAll (ns.map PyData.int) + 3 ≤ 16000000
  rw [bnd_ints]
  omega
theorem ne_same {H : Hp} {x : V} {Q : VK} (hs : scal x x = true) (q : Q (.bl false) H) : rNe x x H Q := ⟨hs, by rw [decide_eq_true rfl]; exact q⟩

/-- the law's call, by a promise that asks that no repr is under way (none is, at the caller) -/
theorem law_g {P : Program} {w : World} {K : PySem.W.Frag} {mg mb : Str → Option Value} {k : Nat} {fa a : Addr} {fd : FuncData} {x : Str} {sp : Sp} {s : Shared} {vs : List Value} {ns : List Int} (KX : K.In s.heap) (hns : s.heap.Ns mainGlobals mg)
    (hb : s.heap.Ns builtinsNs mb) (hbb : ∀ y : Str, y ≠ "__name__" → mb y = bootBuiltins y) (hlim : s.heap.NoLimit) (hg : s.gens = #[]) (ha : s.heap.get? a = some { cls := .type "list", data := .seq vs.toArray }) (hi : IntsAre vs ns)
    (hl : ns.length ≤ sizeLine) (hr : Room k callerA) (F : ∀ base : Heap, K.In base → base.Ns mainGlobals mg → FnG P w K mg base CX0 k fa fd [x] sp) (bind : ∀ (t : Shared) (u : Value), BindsTo t fd ⟨[u], []⟩ [(x, u)])
    (hsp : ∀ H : Hp, SqL K H a (ns.map V.int) → sp [.ref a] H (fun v _ => v = .bl true) fun _ _ _ => False) :
    codeAny (model P w) callerA (.call (.ref fa) ⟨[.ref a], []⟩) (fun r s' => r = .ok (.ret (.bool true)) ∧ OldK s.heap s'.heap ∧ s'.os = s.os ∧ AllBare s'.gens) s := by
  obtain ⟨H, hS, hok, hO⟩ : ∃ H : Hp, SqL K H a (ns.map V.int) ∧ HOk P w H s.heap ∧ ∀ b, H b = none ∨ (b = a ∧ K.lookup a = none ∧ H b = some (.frz { cls := .type "list", data := .seq vs.toArray } (.lst (ns.map V.int)))) := by
    cases hk : K.lookup a with
    | none =>
      refine ⟨upd (fun _ => none) a (.frz { cls := .type "list", data := .seq vs.toArray } (.lst (ns.map V.int))), .inl (.inr ⟨_, upd_same⟩), fun b o e => ?_, fun b => ?_⟩
      · by_cases q : b = a
        · subst q
          rw [upd_same] at e
          cases e
          exact ⟨ha, by rw [List.length_map]; exact hl, vs, _, vals_ints hi, ha⟩
        · rw [upd_ne q] at e
          cases e
      · by_cases q : b = a
        · subst q
          exact .inr ⟨rfl, rfl, upd_same⟩
        · exact .inl (upd_ne q)
    | some o =>
      have e := KX a o hk
      rw [ha] at e
      cases e
      exact ⟨fun _ => none, .inr ⟨_, vs.toArray, _, hk, rfl, rfl, rfl, by rw [List.size_toArray, hi.length]; exact hl, by simpa using vals_ints hi⟩, (fun b o e => by cases e), fun _ => .inl rfl⟩
  have free : ∀ {b : Addr} {o : Obj}, s.heap.get? b = some o → (b = a → K.lookup a = none → False) → H b = none := fun {b o} e n => by
    rcases hO b with z | ⟨z, zk, _⟩
    · exact z
    · exact (n z zk).elim
  have nsB : ∀ {b : Addr} {m : Str → Option Value}, s.heap.Ns b m → (hidT s.heap H).Ns b m := fun {b m} z => by
    obtain ⟨o, es, ep, e, d, r⟩ := z
    refine ⟨o, es, ep, hidT_get e (free e fun q _ => ?_), d, r⟩
    subst q
    rw [ha] at e
    cases e
    cases (show Data.seq vs.toArray _ = Data.dict es ep from d)
  have kB : K.In (hidT s.heap H) := fun b o e => hidT_get (KX b o e) (free (KX b o e) fun q z => by
    subst q
    rw [z] at e
    cases e)
  have M : Mod K mg (hidT s.heap H) := by
    obtain ⟨mc, h1, h2⟩ := hlim
    exact ⟨kB, nsB hns, ⟨mb, nsB hb, hbb⟩, ⟨mc, nsB h1, h2⟩⟩
  have e0 : Env0 P w K mg (hidT s.heap H) callerA [] s H := ⟨rfl, M, fun b o e => of_hidT e, Nat.le_of_eq (hidT_size _ _), trivial, (fun b z => nomatch (show b ∈ ([] : List Addr) from z)), hok, .of_eq hg⟩
  refine codeAny_mono ((F _ kB (nsB hns)).go callerA [] s H ⟨[.ref a], []⟩ [.ref a] [.ref a] _ _ rfl hr e0 (bind s (.ref a)) (.cons rfl .nil) (hsp H hS)) fun r s' h => ?_
  cases r with
  | error e => exact (show False from h).elim
  | ok fl =>
    cases fl with
    | next => exact (show False from h).elim
    | brk => exact (show False from h).elim
    | cont => exact (show False from h).elim
    | ret u =>
      obtain ⟨v, H', os, bare, un, hok', rv, q⟩ := h
      obtain rfl : v = .bl true := q
      obtain rfl : u = Value.bool true := rv
      refine ⟨rfl, OldK.of_keep fun b o e => ?_, os, bare⟩
      rcases hO b with z | ⟨z, zk, z3⟩
      · exact un.keep b o e z (fun y => nomatch (show b ∈ ([] : List Addr) from y)) (by simp)
      · have e1 := (hok' b _ (un.frzs b _ _ z3)).1
        have e2 := (hok b _ z3).1
        rw [e] at e2
        cases e2
        exact e1
/-- the end of a law's row by such a promise -/
theorem walk_g {l : PySem.W.OpenLaw} {n k : Nat} {q : Program} {loose : List Str} {XP : (Str → Option Value) → Heap → Prop} {YP : World → Heap → Prop} {d : DefRec} {K : Params → PySem.W.Frag} {sp : World → Sp} {x : Str} (hn : l.most = some n)
    (hn2 : n ≤ sizeLine) (hdf : d.params.defaults = []) (hr : Room k callerA) (hY : ∀ (w : World) (h : Heap), YP w h → (K w.params).In h)
    (F : ∀ (w : World) (mg : Str → Option Value) (fa : Addr) (h : Heap), (K w.params).In h → h.Ns mainGlobals mg → mg d.name = some (.ref fa) → ∃ fd : FuncData, (∀ (s : Shared) (u : Value), BindsTo s fd ⟨[u], []⟩ [(x, u)]) ∧
      ∀ base : Heap, (K w.params).In base → base.Ns mainGlobals mg → FnG l.prog w (K w.params) mg base CX0 k fa fd [x] (sp w))
    (hsp : ∀ (w : World) (H : Hp) (a : Addr) (ns : List Int), ns.length ≤ n → SqL (K w.params) H a (ns.map V.int) → sp w [.ref a] H (fun v _ => v = .bl true) fun _ _ _ => False) :
    PySem.W.WalkO q loose XP YP l.row.toRowW d [] (fun f vs => PySem.call f vs) :=
  Att.attach_call hn hdf fun w s₀ s₁ mg mb fa o pm cd doc a vs ns G Y ho hd hcd hmg hobj hints hlen hg => by
    have KX := hY w _ Y
    obtain ⟨fd, hb, hF⟩ := F w mg fa _ KX G.T.g hmg
    exact law_g KX G.T.g G.T.b G.T.builtins G.T.nolimit hg hobj hints (Nat.le_trans hlen hn2) hr hF hb fun H hS => hsp w H a ns hlen hS
theorem walk_gE {l : PySem.W.OpenLaw} {n k : Nat} {q : Program} {loose : List Str} {XP : (Str → Option Value) → Heap → Prop} {YP : World → Heap → Prop} {d : DefRec} {x : Str} (hn : l.most = some n)
    (hn2 : n ≤ sizeLine) (hdf : d.params.defaults = []) (hr : Room k callerA)
    (F : ∀ (w : World) (mg : Str → Option Value) (fa : Addr) (h : Heap), YP w h → h.Ns mainGlobals mg → mg d.name = some (.ref fa) → ∃ (K : PySem.W.Frag) (fd : FuncData) (sp : Sp), K.In h ∧ (∀ (s : Shared) (u : Value), BindsTo s fd ⟨[u], []⟩ [(x, u)]) ∧
      (∀ (H : Hp) (a : Addr) (ns : List Int), ns.length ≤ n → SqL K H a (ns.map V.int) → sp [.ref a] H (fun v _ => v = .bl true) fun _ _ _ => False) ∧
      ∀ base : Heap, K.In base → base.Ns mainGlobals mg → FnG l.prog w K mg base CX0 k fa fd [x] sp) :
    PySem.W.WalkO q loose XP YP l.row.toRowW d [] (fun f vs => PySem.call f vs) :=
  Att.attach_call hn hdf fun w s₀ s₁ mg mb fa o pm cd doc a vs ns G Y ho hd hcd hmg hobj hints hlen hg => by
    obtain ⟨K, fd, sp, KX, hb, hsp, hF⟩ := F w mg fa _ Y G.T.g hmg
    exact law_g KX G.T.g G.T.b G.T.builtins G.T.nolimit hg hobj hints (Nat.le_trans hlen hn2) hr hF hb fun H hS => hsp H a ns hlen hS
end Eb

/-! ## own layer: defs that show data (repr), run where no repr is under way -/
namespace Eb
open PySem PySem.Spec PyProof.Rows L2 StX
section
variable {P : Program} {w' : World} {K : PySem.W.Frag} {mg : Str → Option Value} {base : Heap} {name qual : Str} {st : Stmt} {f : Addr} {fd : FuncData} {N ps : List Str} {k : Nat} {B : Tb}
theorem fnF0g (F : Fun K name qual st f fd) (S : FnScope N ps (defScope st)) {t : DS} {n m : Nat} (hn : ps.length = n) (hN : N.length = n + m) (hK : K = B.K)
    (body : ∀ (cdv : Value) (A : Around) (outer : List Env) (s : Shared) (H : Hp) (E : XK) (Z M : Addr → Prop) (H0 : Hp) (dl : Option (Addr × Addr)), Grd A → Room k (A.deeper (envOfC qual (defScope st) s.heap.objs.size f cdv)) →
      XSs (cxOf CX0 P w' K mg base N qual (defScope st) f cdv A outer s H E).nox ⟨B, Z, M, H0, dl⟩ w0 (defBody st) t) : FnG P w' K mg base CX0 (k + 1) f fd ps (spF0 B (wpOf n m t)) := by
  refine fun_g F S (fun vs H Q E ⟨Z, ds, _, _, r, h, _⟩ => by rw [r.len, h.1, hn]) fun cdv A outer s H vs Q E hg hr ⟨Z, ds, q, hZ, r, ⟨hl, ht⟩, kq⟩ => ?_
  refine run_body (body cdv A outer s H E Z (fun _ => False) H none hg hr) hK (st_start hZ r (by rw [hl]; exact hN)) ?_ ht
  refine ⟨fun env' W' σ' H' q S' _ => kq _ _ _ q (fun a o h => S'.fr a o (fun z => z) h) rfl, fun _ _ _ _ q => q.elim, fun _ _ _ _ q => q.elim, fun d v env' W' σ' H' q S' rp => kq d v H' q (fun a o h => S'.fr a o (fun z => z) h) ((rp.up out_of).up out0), fun _ _ _ _ _ _ _ q => q.elim⟩
theorem fnG0g (F : Fun K name qual st f fd) (S : FnScope N ps (defScope st)) {t : DS} {n m : Nat} (hn : ps.length = n + 1) (hN : N.length = n + 1 + m) (hK : K = B.K)
    (body : ∀ (cdv : Value) (A : Around) (outer : List Env) (s : Shared) (H : Hp) (E : XK) (Z M : Addr → Prop) (H0 : Hp) (dl : Option (Addr × Addr)), Grd A → Room k (A.deeper (envOfC qual (defScope st) s.heap.objs.size f cdv)) →
      XSs (cxOf CX0 P w' K mg base N qual (defScope st) f cdv A outer s H E).nox ⟨B, Z, M, H0, dl⟩ w0 (defBody st) t) : FnG P w' K mg base CX0 (k + 1) f fd ps (spG0 B (wpOfG n m t)) := by
  refine fun_g F S (fun vs H Q E ⟨Z, ds, _, d, l, vr, e, _, _, r, h, _⟩ => by rw [e, List.length_cons, r.len, h.1, hn]) fun cdv A outer s H vs Q E hg hr ⟨Z, ds, q, d, l, vr, e, D0, hZ, r, ⟨hl, ht⟩, kq⟩ => ?_
  subst e
  refine run_body (body cdv A outer s H E Z (fun a => a = d ∨ a = l) H (some (d, l)) hg hr) hK (st_startG D0 hZ r (by rw [hl]; exact hN)) ?_ ht
  exact ⟨fun env' W' σ' H' q S' _ => kq _ _ _ q (drew_of S') rfl, fun _ _ _ _ q => q.elim, fun _ _ _ _ q => q.elim, fun d v env' W' σ' H' q S' rp => kq d v H' q (drew_of S') (rp.up out_of), fun _ _ _ _ _ _ _ q => q.elim⟩
end
section
variable {X : Cx} {Λ : Lx} {w : WX} {a b c e o : Expr} {es : List Expr} {ta tb tc t : DE} {u : DA} {pos p apos : Pos} {k : Nat} {f : Addr} {fd : FuncData} {ps : List Str} {wp : DW} {y : Str}
theorem xe_callN (hG : Grd X.A) (F : FnG X.prog X.w X.K X.mg X.base CX0 k f fd ps (spF0 Λ.B wp)) (hr : Room k X.A) (hg : Gl X y) (hm : X.mg y = some (.ref f)) (hk : PySem.W.keepIn X.K (.ref f) = true) (hb : Binds X.K fd ps []) (ha : XA X Λ w (e :: es) u) (hdb : (y == ("__debug__" : Str)) = false := by decide)
    (he : starEach (e :: es) X.env = (false, eval e X.env) :: starEach es X.env := by rfl) (hpl : (backTo pos (starEach es X.env)).any (·.1) = false := by rfl) : XE X Λ w (.Call (.Name y p) (e :: es) [] pos) (dF0 wp u) := ⟨fun hK => by
  obtain ⟨ra, pa, sa⟩ := ha.ex hK
  refine ⟨_, pe_callG hG F hr hg hm hk hb pass0 pa hdb he hpl, fun env W σ H Q q x S hx h k => sa env W σ H _ _ x S hx h fun ds vs H1 h1 S1 e1 r1 => ?_⟩
  rw [List.append_nil]
  exact call0 S1 r1 h1 fun d v H' a b c => k d v H' a b (e1.trans c)⟩
theorem xe_callGN {i : Nat} {y1 : Str} {p1 : Pos} (hG : Grd X.A) (ho : PE X (.Name y1 p1) (tVar i)) (F : FnG X.prog X.w X.K X.mg X.base CX0 k f fd ps (spG0 Λ.B wp)) (hr : Room k X.A) (hg : Gl X y) (hm : X.mg y = some (.ref f)) (hk : PySem.W.keepIn X.K (.ref f) = true) (hb : Binds X.K fd ps []) (ha : XA X Λ w es u) (hdb : (y == ("__debug__" : Str)) = false := by decide)
    (he : starEach (.Name y1 p1 :: es) X.env = (false, eval (.Name y1 p1) X.env) :: starEach es X.env := by rfl) (hpl : (backTo pos (starEach es X.env)).any (·.1) = false := by rfl) : XE X Λ w (.Call (.Name y p) (.Name y1 p1 :: es) [] pos) (dG0 i wp u) := ⟨fun hK => by
  obtain ⟨ra, pa, sa⟩ := ha.ex hK
  refine ⟨_, pe_callG hG F hr hg hm hk hb pass0 (pa_cons ho pa he) hdb he hpl, fun env W σ H Q q x S hx h k => ?_⟩
  unfold dG0 at h
  split at h
  · rename_i hd
    obtain ⟨d, l, ed, hσ⟩ := S.sl i _ hd
    refine ⟨_, hσ, sa env W σ H _ _ x S hx h fun ds vs H1 h1 S1 e1 r1 => ?_⟩
    show spG0 Λ.B wp ((V.ref d :: vs) ++ []) H1 Q E0
    rw [List.append_nil]
    exact call_g S1 ed r1 h1 fun d v H' a b c => k d v H' a b (e1.trans c)
  · exact h.elim⟩
/-- repr(x) of data -/
@[irreducible] def reprD : List D → DK := fun ds q _ => match ds with
  | [d] => ∃ z, d.py = some z ∧ z.showable = true ∧ bnd z ≤ 16000000 ∧ z.depth ≤ 60 ∧ q (.str z.shown)
  | _ => False
theorem snd_repr : SndC Λ w (rRepr Λ.B.K) reprD := fun env W σ H ds vs Q q x S hx r h k => by
  unfold reprD at h
  split at h
  · obtain ⟨v, rfl, r1⟩ := r.one_inv
    obtain ⟨z, h1, h2, h3, h4, h5⟩ := h
    exact ⟨v, z, rfl, (r1.up hid_le).dp _ _ _ h1, h2, h3, h4, k _ _ H h5 S .refl rfl⟩
  · exact h.elim
theorem hc_repr (hG : Grd X.A) (hu : X.A.units + 64 < cLine) : X.K = Λ.B.K → CallR X (.builtin "repr") (rRepr Λ.B.K) := fun hK => hK ▸ call_repr hG hu
/-! list(range(a)), list(range(a, b)) -/
def dLr2 (ta tb : DE) : DA := fun env q x => ta env (fun d => tb env (fun e => match d, e with
  | .int i, .int j => RgOk i j ∧ q (rgD i (j - i).toNat)
  | _, _ => False) x) x
def dLr1 (ta : DE) : DA := fun env q x => ta env (fun d => match d with
  | .int j => RgOk 0 j ∧ q (rgD 0 j.toNat)
  | _ => False) x
theorem rep_rg {B : Tb} {H : Hp} (i j : Int) : RepL B H (rgD i (j - i).toNat) (rgV i j) := by
  unfold rgD rgV
  generalize List.range (j - i).toNat = l
  induction l with
  | nil => rfl
  | cons n l ih => exact ⟨_, _, rfl, rfl, ih⟩
theorem xl_lr2 {p1 : Pos} (hg : Gl X "list") (hm : X.mg "list" = none) (hg2 : Gl X "range") (hm2 : X.mg "range" = none) (ha : XE X Λ w a ta) (hb : XE X Λ w b tb) (hc : X.calm = true := by rfl)
    (na : starEach [a, b] X.env = (false, eval a X.env) :: starEach [b] X.env := by rfl) (nb : starEach [b] X.env = (false, eval b X.env) :: starEach [] X.env := by rfl) (hp : (backTo apos (starEach [b] X.env)).any (·.1) = false := by rfl)
    (nc : starEach [.Call (.Name "range" p1) [a, b] [] apos] X.env = (false, eval (.Call (.Name "range" p1) [a, b] [] apos) X.env) :: starEach [] X.env := by rfl) : XL X Λ w (.Call (.Name "list" p) [.Call (.Name "range" p1) [a, b] [] apos] [] pos) (dLr2 ta tb) := ⟨fun hK => by
  obtain ⟨ra, pa, sa⟩ := ha.ex hK
  obtain ⟨rb, pb, sb⟩ := hb.ex hK
  refine ⟨_, pe_listRg hc hg hm (prg_2 hg2 hm2 pa pb na nb hp) nc, fun env W σ H Q q x S hx h k => sa env W σ H _ _ x S hx h fun d v H1 h1 S1 e1 r1 => sb env W σ H1 _ _ x S1 (hx.on e1) h1 fun d2 v2 H2 h2 S2 e2 r2 => ?_⟩
  cases d <;> cases d2 <;> first | exact h2.elim | skip
  cases r1
  cases r2
  rename_i i j
  exact ⟨i, j, rfl, rfl, h2.1, finL S2 (rep_rg i j) h2.2 fun ds p vs H' a b c f g r => k ds p vs H' a b ((e1.trans e2).trans c) (e1.free (e2.free f)) g r⟩⟩
theorem xl_lr1 {p1 : Pos} (hg : Gl X "list") (hm : X.mg "list" = none) (hg2 : Gl X "range") (hm2 : X.mg "range" = none) (ha : XE X Λ w a ta) (hc : X.calm = true := by rfl)
    (na : starEach [a] X.env = (false, eval a X.env) :: starEach [] X.env := by rfl)
    (nc : starEach [.Call (.Name "range" p1) [a] [] apos] X.env = (false, eval (.Call (.Name "range" p1) [a] [] apos) X.env) :: starEach [] X.env := by rfl) : XL X Λ w (.Call (.Name "list" p) [.Call (.Name "range" p1) [a] [] apos] [] pos) (dLr1 ta) := ⟨fun hK => by
  obtain ⟨ra, pa, sa⟩ := ha.ex hK
  refine ⟨_, pe_listRg hc hg hm (prg_1 hg2 hm2 pa na) nc, fun env W σ H Q q x S hx h k => sa env W σ H _ _ x S hx h fun d v H1 h1 S1 e1 r1 => ?_⟩
  cases d <;> first | exact h1.elim | skip
  cases r1
  rename_i j
  have rr : RepL Λ.B (Λ.vis W H1) (rgD 0 j.toNat) (rgV 0 j) := by
    have := rep_rg (B := Λ.B) (H := Λ.vis W H1) 0 j
    rwa [show j - 0 = j by omega] at this
  exact ⟨j, rfl, h1.1, finL S1 rr h1.2 fun ds p vs H' a b c f g r => k ds p vs H' a b (e1.trans c) (e1.free f) g r⟩⟩
end
end Eb

/-! ## own: y == x and x in (y, ..), x an instance of an own class with __eq__, y of a built-in one -/
namespace Eb
open PySem PySem.Spec PyProof.Rows L2
set_option maxRecDepth 100000
section
variable {P : Program} {w : World} {A : Around} {E : Value → Shared → Prop} {s : Shared} {K : PySem.W.Frag} {x C f l dx L : Addr} {od : Option Obj} {Q : Value → Shared → Prop} {h₀ : Heap} {m : Str → Option Value}
theorem dec_none (q : Q .notImplemented s) : wpAny (model P w) A (call (.builtin "NoneType.__eq__") [.none, .ref x]) Q E s := by
  refine wpAny_call (codeAny_call_builtin PySem.F.slot_NoneType_eq.plain PySem.F.entry_NoneType_eq (PySem.F.slot_NoneType_eq.check _ _ _ _ _ _ _ _ (T := "NoneType") rfl (PySem.F.args_NoneType_eq_2 _ _) ?_))
  obtain ⟨hp, g, d, tk, os⟩ := s
  wp_walk
  exact q
theorem dec_str {y : Str} {t : Tok} (I : PySem.W.InstAt s.heap x (PySem.W.instObj C dx) C od) (q : Q .notImplemented s) : wpAny (model P w) A (call (.builtin "str.__eq__") [.str y t, .ref x]) Q E s := by
  refine wpAny_call (codeAny_call_builtin PySem.F.slot_str_eq.plain PySem.F.entry_str_eq (PySem.F.slot_str_eq.check _ _ _ _ _ _ _ _ (T := "str") rfl (PySem.F.args_str_eq_2 _ _) ?_))
  obtain ⟨hp, g, d, tk, os⟩ := s
  have hl := I.at_
  unfold PySem.W.instObj at hl
  wp_walk using PySem.AutoSeq1.wpAny_loadPart' hl, wpAny_load hl
  exact q
theorem dec_tuple (X : K.In s.heap) (I : PySem.W.InstAt s.heap x (PySem.W.instObj C dx) C od) (hl : s.TypeIs (.ref l) "tuple") (hs : PySem.W.subIn K (.ref C) (.type "tuple") = some false) (q : Q .notImplemented s) : wpAny (model P w) A (call (.builtin "tuple.__eq__") [.ref l, .ref x]) Q E s := by
  refine wpAny_call (codeAny_call_builtin PySem.F.slot_tuple_eq.plain PySem.F.entry_tuple_eq (PySem.F.slot_tuple_eq.check _ _ _ _ _ _ _ _ hl (PySem.F.args_tuple_eq_2 _ _) ?_))
  refine wpAny_bind (wpAny_of_eq (show slotArgs "__eq__" 1 ⟨[.ref l, .ref x], []⟩ = pure (.ref l, [.ref x]) from rfl) ?_)
  refine wpAny_bind ?_
  unfold isInstance
  refine wpAny_bind (I.type.here ((PySem.W.looks_subIn X hs).here ?_))
  obtain ⟨hp, g, d, tk, os⟩ := s
  wp_walk
  exact q
/-- y == x: y's class declines, x's own def is asked -/
theorem rc_eqR {y : Value} {T id : String} (hu : A.units < cLine) (X : K.In s.heap) (I : PySem.W.InstAt s.heap x (PySem.W.instObj C dx) C od) (hT : s.TypeIs y T) (hsub : PySem.W.subIn K (.ref C) (.type T) = some false) (S : Slot T "__eq__" id)
    (hd : ∀ Q' : Value → Shared → Prop, Q' .notImplemented s → wpAny (model P w) A (call (.builtin id) [y, .ref x]) Q' E s) (hs : PySem.W.findIn K (.ref C) "__eq__" = some (some (.ref f))) (hf : PySem.W.isFn K (.ref f) = true)
    (h : wpAny (model P w) A (call (.ref f) [.ref x, y]) (PySem.W.CmpBack Q) E s) : wpAny (model P w) A (richCompare .Eq y (.ref x)) Q E s := by
  have one : wpAny (model P w) A (tryCompare (.ref x) "__eq__" y) (fun r s' => ∃ v, r = some v ∧ Q v s') E s := by
    unfold tryCompare
    refine wpAny_bind (PySem.W.ifBound_K X I hs hf (wpAny_mono h (fun v s' hv => ?_) fun _ _ e => e))
    cases v <;> first | exact hv.elim | exact wpAny_pure ⟨_, rfl, hv⟩
  unfold richCompare
  simp only [hT.oneThing_none]
  refine wpAny_holding (wpAny_bind (wpAny_cRoomFor hu ?_))
  refine wpAny_bind (wpAny_typeOf hT (wpAny_bind (I.type.here ?_)))
  simp only [show (Value.type T != Value.ref C) = true from rfl, if_true]
  refine wpAny_bind ((PySem.W.looks_subIn X hsub).here ?_)
  simp only [Bool.false_eq_true, if_false]
  refine wpAny_bind (wpAny_tryCompare_declines hT S (hd _ ⟨rfl, ?_⟩))
  simp only [Bool.not_false, if_true]
  refine wpAny_bind (wpAny_mono one (fun r s' z => ?_) fun _ _ e => e)
  obtain ⟨v, rfl, hq⟩ := z
  exact wpAny_pure hq
theorem eqb_R {y : Value} {R : Bool → Shared → Prop} (hne : (y == .ref x) = false) (hfl : ∀ a b, y ≠ .float a b) (h : wpAny (model P w) A (richCompare .Eq y (.ref x)) (fun v s' => ∃ b, v = .bool b ∧ R b s') E s) : wpAny (model P w) A (eqBool y (.ref x)) R E s := by
  unfold eqBool
  refine wpAny_holding ?_
  simp only [hne, Bool.false_eq_true, if_false]
  have go : wpAny (model P w) A (richCompare .Eq y (.ref x) >>= fun v => truthOfDropped v) R E s := wpAny_bind (wpAny_mono h (fun v s' z => by
    obtain ⟨b, rfl, hr⟩ := z
    exact wpAny_truthy_bool hr) fun _ _ e => e)
  cases y <;> first | exact absurd rfl (hfl _ _) | exact go
theorem in_tupR {items : Array Value} {x : Value} (hl : s.heap.IsTuple l items) (N : List Value → Shared → Prop) (h0 : N items.toList s) (hs : ∀ y rest s', N (y :: rest) s' → wpAny (model P w) A.in1 (eqBool y x) (fun b s'' => b = false ∧ N rest s'') E s')
    (hd : ∀ s', N [] s' → Q (.bool false) s') : wpAny (model P w) A (compareOp .In x (.ref l)) Q E s := by
  obtain ⟨⟨cls, dd, data, sl⟩, ho, hc, n, hdt⟩ := id hl
  simp only at hc hdt
  subst hc hdt
  show wpAny _ A (do return .bool (← contains (.ref l) x)) Q E s
  have hT : s.TypeIs (.ref l) "tuple" := ⟨_, ho, rfl⟩
  refine wpAny_bind (wpAny_contains_slot hT PySem.F.slot_tuple_contains (wpAny_mono (?_ : wpAny _ _ _ (fun v s' => ∃ b, v = .bool b ∧ Q (.bool b) s') E s) (fun v s' hv => ?_) fun _ _ e => e))
  · refine wpAny_call (codeAny_call_builtin PySem.F.slot_tuple_contains.plain PySem.F.entry_tuple_contains (PySem.F.slot_tuple_contains.check _ _ _ _ _ _ _ _ hT (PySem.F.args_tuple_contains_2 _ _) ?_))
    obtain ⟨hp, g, d, tk, os⟩ := s
    wp_walk using PySem.AutoSeq1.wpAny_loadPart' ho, PySem.MeetsSeq2.wpAny_forIn_array _ (fun rest b s' => b.1 = none ∧ N rest s') _
    case turn =>
      rintro y rest b s' ⟨hb, hN⟩
      refine wpAny_bind (wpAny_mono (hs y rest s' hN) (fun b s'' z => ?_) fun _ _ e => e)
      obtain ⟨rfl, hN'⟩ := z
      wp_walk
      exact ⟨rfl, hN'⟩
    case fin =>
      rintro ⟨b1, b2⟩ s' ⟨hb, hN⟩
      simp only at hb
      subst hb
      wp_walk
      exact ⟨_, rfl, hd s' hN⟩
    case h => exact ⟨rfl, h0⟩
  · obtain ⟨b, rfl, hq⟩ := hv
    exact wpAny_truthy_bool (wpAny_pure hq)
end
end Eb

/-! ## own layer: x in (y, ..), x an own instance with __eq__, the y's of built-in classes, none equal -/
namespace Eb
open PySem PySem.Spec PyProof.Rows L2 StX
section
variable {X : Cx} {CX : CXT} {n : Nat} {C g : Addr} {sp : Sp} {E : XK}
/-- the y's that are told of here -/
def YOk (K : PySem.W.Frag) (H : Hp) (y : V) : Prop := y = .non ∨ (∃ z, y = .str z) ∨ ∃ p xs, y = .ref p ∧ SqT K H p xs
def inChain (K : PySem.W.Frag) (C a : Addr) (sp : Sp) (E : XK) (Q : VK) : List V → Hp → Prop
  | [], H => Q (.bl false) H
  | y :: ys, H => InsO H a C ∧ YOk K H y ∧ sp [.ref a, y] H (fun z H' => z = .bl false ∧ inChain K C a sp E Q ys H') E
def rInT (K : PySem.W.Frag) (C : Addr) (sp : Sp) (E : XK) : R2 := fun x y H Q => ∃ a p xs, x = .ref a ∧ y = .ref p ∧ SqT K H p xs ∧ inChain K C a sp E Q xs H
/-- what is known of the class -/
structure InTO (K : PySem.W.Frag) (C : Addr) : Prop where
  no : PySem.W.subIn K (.ref C) (.type "NoneType") = some false
  st : PySem.W.subIn K (.ref C) (.type "str") = some false
  tu : PySem.W.subIn K (.ref C) (.type "tuple") = some false
theorem op_inT (o : InTO X.K C) (hs : PySem.W.findIn X.K (.ref C) "__eq__" = some (some (.ref g))) (hf : PySem.W.isFn X.K (.ref g) = true) (F : FnR X.prog X.w X.K X.mg X.base CX n g sp) (hr : Room (n + 1) X.A) (hx : Passes CX X E) : OpR X (compareOp .In) (rInT X.K C sp E) := by
  intro pins s σ H x y v u Q I rx ry h
  obtain ⟨a, p, xs, rfl, rfl, hq, ch⟩ := h
  cases (show v = Value.ref a from rx)
  cases (show u = Value.ref p from ry)
  obtain ⟨its, r, pl, hz⟩ := I.tuple hq
  have hu := hr.units
  refine in_tupR pl (fun rest s' => ∃ vs' H', Inv X pins σ H' s' ∧ Vals vs' rest ∧ inChain X.K C a sp E Q vs' H') ⟨xs, H, I, by simpa using r, ch⟩ ?_ ?_
  · rintro y rest s' ⟨vs', H', I', rv, ch'⟩
    cases rv with
    | cons ry rr =>
      rename_i yv ys
      obtain ⟨hi, hy, q⟩ := ch'
      obtain ⟨dx, od, J⟩ := insO_obj I' hi
      have fin : wpAny (model X.prog X.w) X.A.in1 (call (.ref g) [.ref a, y]) (PySem.W.CmpBack fun v s'' => ∃ b, v = .bool b ∧ b = false ∧ ∃ vs' H', Inv X pins σ H' s'' ∧ Vals vs' rest ∧ inChain X.K C a sp E Q vs' H') X.xe s' := by
        refine wpAny_mono (wpAny_call (SlX.run_at (us := [.ref a, y]) (ws := [.ref a, yv]) F hr.in1 I'.env0.in1 hx I' (.cons rfl (.cons ry .nil)) q)) (fun w s'' z => ?_) fun _ _ x => x
        obtain ⟨z', H'', I'', rz, ez, qz⟩ := z
        subst ez
        exact SlX.cmpback rz ⟨false, rz, rfl, ys, H'', I'', rr, qz⟩
      have hu1 : X.A.in1.units < cLine := by
        have : X.A.in1.units ≤ X.A.units + 1 := by simp [Around.in1]
        omega
      rcases hy with rfl | ⟨z, rfl⟩ | ⟨p2, xs2, rfl, h2⟩
      · cases (show y = Value.none from ry)
        exact eqb_R rfl (fun _ _ e => nomatch e) (rc_eqR (T := "NoneType") hu1 I'.kIn J rfl o.no PySem.F.slot_NoneType_eq (fun Q' q' => dec_none q') hs hf fin)
      · obtain ⟨t, rfl⟩ := (show ∃ t, y = Value.str z t from ry)
        exact eqb_R rfl (fun _ _ e => nomatch e) (rc_eqR (T := "str") hu1 I'.kIn J rfl o.st PySem.F.slot_str_eq (fun Q' q' => dec_str J q') hs hf fin)
      · cases (show y = Value.ref p2 from ry)
        obtain ⟨its2, r2, pl2, hz2⟩ := I'.tuple h2
        obtain ⟨ot, ho, hc, _⟩ := id pl2
        have hT : s'.TypeIs (.ref p2) "tuple" := ⟨ot, ho, hc⟩
        have hne : (Value.ref p2 == Value.ref a) = false := by
          rw [beq_eq_false_iff_ne]
          intro e
          cases e
          rw [J.at_] at ho
          cases ho
          cases hc
        exact eqb_R hne (fun _ _ e => nomatch e) (rc_eqR (T := "tuple") hu1 I'.kIn J hT o.tu PySem.F.slot_tuple_eq (fun Q' q' => dec_tuple I'.kIn J hT o.tu q') hs hf fin)
  · rintro s' ⟨vs', H', I', rv, ch'⟩
    cases rv
    exact ⟨.bl false, H', I', rfl, ch'⟩
end
section
variable {X : Cx} {Λ : Lx} {w : WX} {wp : DW}
def inTC (wp : DW) (o : D) (q : D → Prop) : List D → Prop
  | [] => q (.bl false)
  | d :: ds => (match d with
    | .non => True
    | .str _ => True
    | .tup _ => True
    | _ => False) ∧ wp [o, d] (fun z => z = .bl false ∧ inTC wp o q ds) (fun _ => False)
def inTD (c : Nat) (wp : DW) : D → D → DK := fun d e q _ => match d, e with
  | .obj c1 f1, .tup ds => c1 = c ∧ inTC wp (.obj c1 f1) q ds
  | _, _ => False
theorem snd_inT {c : Nat} {E : XK} : SndR Λ w (rInT Λ.B.K (Λ.B.C c) (spF0 Λ.B wp) E) (inTD c wp) := fun env W σ H d e v u Q q x S hx r1 r2 h k => by
  cases d <;> cases e <;> first | exact h.elim | skip
  obtain ⟨rfl, h⟩ := h
  rename_i c1 f1 ds
  obtain ⟨a, rfl, i1⟩ := rep_ins r1
  obtain ⟨p, vs, rfl, hT, rl⟩ := id r2
  refine ⟨a, p, vs, rfl, rfl, Same_seqT hid_le hT, ?_⟩
  have go : ∀ (ds : List D) (vs : List V) (H1 : Hp), StOk Λ env W σ H1 → Ev Λ W H H1 → Rep Λ.B (Λ.vis W H1) (.obj c1 f1) (.ref a) → RepL Λ.B (Λ.vis W H1) ds vs → inTC wp (.obj c1 f1) q ds → inChain Λ.B.K (Λ.B.C c1) a (spF0 Λ.B wp) E Q vs H1 := by
    intro ds
    induction ds with
    | nil =>
      intro vs H1 S1 e1 ra rv h
      cases rv.nil_inv
      exact k _ _ H1 h S1 e1 rfl
    | cons d ds ih =>
      intro vs H1 S1 e1 ra rv h
      obtain ⟨v, r, rfl, rd, rr⟩ := rv.cons_inv
      obtain ⟨hd, h⟩ := h
      obtain ⟨a', ea, ia⟩ := rep_ins ra
      cases ea
      refine ⟨ia, ?_, call0 S1 (RepL.cons ra (RepL.cons rd RepL.nil)) h fun z vz H2 hz S2 e2 rz => ?_⟩
      · cases d <;> first | exact hd.elim | skip
        · exact .inl rd
        · exact .inr (.inl ⟨_, rd⟩)
        · obtain ⟨p2, xs2, e2, h2, _⟩ := rd
          exact .inr (.inr ⟨p2, xs2, e2, Same_seqT hid_le h2⟩)
      · obtain ⟨rfl, hz⟩ := hz
        exact ⟨rz, ih r H2 S2 (e1.trans e2) (ra.up e2.vis) (rr.up e2.vis) hz⟩
  exact go ds vs H S .refl r1 rl h
theorem ho_inT {CX : CXT} {n c : Nat} {g : Addr} {sp : Sp} {E : XK} (o : InTO X.K (Λ.B.C c)) (hs : PySem.W.findIn X.K (.ref (Λ.B.C c)) "__eq__" = some (some (.ref g))) (hf : PySem.W.isFn X.K (.ref g) = true) (F : FnR X.prog X.w X.K X.mg X.base CX n g sp) (hr : Room (n + 1) X.A) (hx : Passes CX X E) :
    X.K = Λ.B.K → OpR X (compareOp .In) (rInT Λ.B.K (Λ.B.C c) sp E) := fun hK => hK ▸ op_inT o hs hf F hr hx
end
end Eb

/-! ## own: texts of terms, as lists of code points, and how they are read back -/
namespace Eb
namespace TT
def dg (m : Nat) : List Nat := (Nat.toDigits 10 m).map Char.toNat
def isD (c : Nat) : Prop := 48 ≤ c ∧ c ≤ 57
theorem dg_D (m : Nat) : ∀ c ∈ dg m, isD c := fun c hc => by
  obtain ⟨ch, hch, e⟩ := List.mem_map.mp hc
  have h := Nat.isDigit_of_mem_toDigits (by decide) (by decide) hch
  rw [← e]
  simp only [Char.isDigit, Bool.and_eq_true, decide_eq_true_eq] at h
  exact ⟨h.1, h.2⟩
theorem dg_ne (m : Nat) : dg m ≠ [] := fun h => Nat.toDigits_ne_nil (List.map_eq_nil_iff.mp h)
theorem map_inj {xs ys : List Char} (h : xs.map Char.toNat = ys.map Char.toNat) : xs = ys := by
  induction xs generalizing ys with
  | nil => cases ys with
    | nil => rfl
    | cons y ys => cases h
  | cons x xs ih => cases ys with
    | nil => cases h
    | cons y ys =>
      simp only [List.map_cons, List.cons.injEq] at h
      rw [ih h.2, Char.toNat_inj.mp h.1]
theorem dg_inj {a b : Nat} (h : dg a = dg b) : a = b := by
  have := congrArg (Nat.ofDigitChars 10 · 0) (map_inj h)
  simpa using this
def Nd (s : List Nat) : Prop := ∀ c t, s = c :: t → ¬ isD c
theorem split_D : ∀ {xs ys s t : List Nat}, (∀ c ∈ xs, isD c) → (∀ c ∈ ys, isD c) → Nd s → Nd t → xs ++ s = ys ++ t → xs = ys ∧ s = t
  | [], [], s, t, _, _, _, _, h => ⟨rfl, h⟩
  | [], y :: ys, s, t, _, hy, hs, _, h => (hs y (ys ++ t) h (hy y List.mem_cons_self)).elim
  | x :: xs, [], s, t, hx, _, _, ht, h => (ht x (xs ++ s) h.symm (hx x List.mem_cons_self)).elim
  | x :: xs, y :: ys, s, t, hx, hy, hs, ht, h => by
    simp only [List.cons_append, List.cons.injEq] at h
    obtain ⟨a, b⟩ := split_D (fun c hc => hx c (List.mem_cons_of_mem _ hc)) (fun c hc => hy c (List.mem_cons_of_mem _ hc)) hs ht h.2
    exact ⟨by rw [h.1, a], b⟩
theorem dg_split {a b : Nat} {s t : List Nat} (hs : Nd s) (ht : Nd t) (h : dg a ++ s = dg b ++ t) : a = b ∧ s = t := by
  obtain ⟨x, y⟩ := split_D (dg_D a) (dg_D b) hs ht h
  exact ⟨dg_inj x, y⟩
/-- what may stand behind a part -/
inductive Stop : List Nat → Prop where
  | nil : Stop []
  | par (t : List Nat) : Stop (41 :: t)
  | blank (c : Nat) (t : List Nat) : c ≠ 98 → Stop (32 :: c :: t)
theorem Stop.nd {s : List Nat} (h : Stop s) : Nd s := by
  cases h with
  | nil => intro c t e; cases e
  | par t => intro c t e; cases e; unfold isD; omega
  | blank c t _ => intro c t e; cases e; unfold isD; omega
def ltr (k : Nat) : List Nat := if k = 1 then [98] else 98 :: 94 :: dg k
def pt (v k : Nat) : List Nat := if k = 0 then dg v else if v = 1 then ltr k else dg v ++ 32 :: ltr k
theorem ltr_split {k l : Nat} {s t : List Nat} (hs : Stop s) (ht : Stop t) (h : ltr k ++ s = ltr l ++ t) : k = l ∧ s = t := by
  unfold ltr at h
  by_cases h1 : k = 1
  · by_cases h2 : l = 1
    · rw [if_pos h1, if_pos h2] at h
      simp only [List.cons_append, List.nil_append, List.cons.injEq, true_and] at h
      exact ⟨by omega, h⟩
    · rw [if_pos h1, if_neg h2] at h
      simp only [List.cons_append, List.nil_append, List.cons.injEq, true_and] at h
      subst h
      cases hs
  · by_cases h2 : l = 1
    · rw [if_neg h1, if_pos h2] at h
      simp only [List.cons_append, List.nil_append, List.cons.injEq, true_and] at h
      subst h
      cases ht
    · rw [if_neg h1, if_neg h2] at h
      simp only [List.cons_append, List.cons.injEq, true_and] at h
      exact dg_split hs.nd ht.nd h
theorem ltr_head (k : Nat) : ∃ t, ltr k = 98 :: t := by
  unfold ltr
  split
  · exact ⟨_, rfl⟩
  · exact ⟨_, rfl⟩
theorem dg_head (v : Nat) : ∃ c t, dg v = c :: t ∧ isD c := by
  cases h : dg v with
  | nil => exact (dg_ne v h).elim
  | cons c t => exact ⟨c, t, rfl, dg_D v c (by rw [h]; exact List.mem_cons_self)⟩
theorem nd32 (s : List Nat) : Nd (32 :: s) := fun c t e => by cases e; unfold isD; omega
theorem not98 {v k : Nat} {s t : List Nat} (h : dg v ++ s = ltr k ++ t) : False := by
  obtain ⟨c, u, e, d⟩ := dg_head v
  obtain ⟨w, e2⟩ := ltr_head k
  rw [e, e2] at h
  simp only [List.cons_append, List.cons.injEq] at h
  unfold isD at d
  omega
theorem stop_ltr {s t : List Nat} {k : Nat} (hs : Stop s) (h : s = 32 :: (ltr k ++ t)) : False := by
  obtain ⟨w, e2⟩ := ltr_head k
  rw [e2] at h
  cases hs with
  | nil => cases h
  | par _ => cases h
  | blank c t hc => cases h; exact hc rfl
/-- a part and what stands behind it can be told apart -/
theorem pt_split {v k w l : Nat} {s t : List Nat} (hs : Stop s) (ht : Stop t) (h : pt v k ++ s = pt w l ++ t) : v = w ∧ k = l ∧ s = t := by
  unfold pt at h
  by_cases k0 : k = 0
  · rw [if_pos k0] at h
    by_cases l0 : l = 0
    · rw [if_pos l0] at h
      obtain ⟨a, b⟩ := dg_split hs.nd ht.nd h
      exact ⟨a, by omega, b⟩
    · rw [if_neg l0] at h
      by_cases w1 : w = 1
      · rw [if_pos w1] at h
        exact (not98 h).elim
      · rw [if_neg w1, List.append_assoc] at h
        obtain ⟨_, b⟩ := dg_split hs.nd (nd32 _) h
        exact (stop_ltr hs b).elim
  · rw [if_neg k0] at h
    by_cases l0 : l = 0
    · rw [if_pos l0] at h
      by_cases v1 : v = 1
      · rw [if_pos v1] at h
        exact (not98 h.symm).elim
      · rw [if_neg v1, List.append_assoc] at h
        obtain ⟨_, b⟩ := dg_split (nd32 _) ht.nd h
        exact (stop_ltr ht b.symm).elim
    · rw [if_neg l0] at h
      by_cases v1 : v = 1
      · rw [if_pos v1] at h
        by_cases w1 : w = 1
        · rw [if_pos w1] at h
          obtain ⟨a, b⟩ := ltr_split hs ht h
          exact ⟨by omega, a, b⟩
        · rw [if_neg w1, List.append_assoc] at h
          exact (not98 h.symm).elim
      · rw [if_neg v1, List.append_assoc] at h
        by_cases w1 : w = 1
        · rw [if_pos w1] at h
          exact (not98 h).elim
        · rw [if_neg w1, List.append_assoc] at h
          obtain ⟨a, b⟩ := dg_split (nd32 _) (nd32 _) h
          simp only [List.cons_append, List.cons.injEq, true_and] at b
          obtain ⟨c, d⟩ := ltr_split hs ht b
          exact ⟨a, c, d⟩
def sg (z : Int) : Nat := if z < 0 then 45 else 43
/-- the parts behind the first one -/
def tl : List (Int × Nat) → List Nat
  | [] => []
  | p :: ps => 32 :: sg p.1 :: 32 :: (pt p.1.natAbs p.2 ++ tl ps)
def hd (z : Int) : List Nat := if z < 0 then [45] else []
def bd : List (Int × Nat) → List Nat
  | [] => []
  | p :: ps => hd p.1 ++ (pt p.1.natAbs p.2 ++ tl ps)
/-- what may stand behind a body -/
inductive End : List Nat → Prop where
  | nil : End []
  | par (t : List Nat) : End (41 :: t)
  | over (t : List Nat) : End (32 :: 47 :: t)
theorem End.stop {s : List Nat} (h : End s) : Stop s := by
  cases h with
  | nil => exact .nil
  | par t => exact .par t
  | over t => exact .blank _ _ (by omega)
theorem tl_stop {ps : List (Int × Nat)} {s : List Nat} (h : End s) : Stop (tl ps ++ s) := by
  cases ps with
  | nil => exact h.stop
  | cons p ps =>
    refine .blank _ _ ?_
    unfold sg
    split <;> omega
theorem sg_abs {z y : Int} (h1 : sg z = sg y) (h2 : z.natAbs = y.natAbs) : z = y := by
  unfold sg at h1
  split at h1 <;> split at h1 <;> omega
theorem tl_end {p : Int × Nat} {ps : List (Int × Nat)} {s t : List Nat} (h : End t) (e : t = tl (p :: ps) ++ s) : False := by
  have n47 : sg p.1 ≠ 47 := by unfold sg; split <;> omega
  have e' : t = 32 :: sg p.1 :: (32 :: (pt p.1.natAbs p.2 ++ tl ps) ++ s) := e
  generalize sg p.1 = c at e' n47
  cases h with
  | nil => cases e'
  | par _ => cases e'
  | over _ => cases e'; exact n47 rfl
theorem tl_split : ∀ {ps qs : List (Int × Nat)} {s t : List Nat}, End s → End t → tl ps ++ s = tl qs ++ t → ps = qs ∧ s = t
  | [], [], s, t, _, _, h => ⟨rfl, h⟩
  | [], q :: qs, s, t, hs, _, h => (tl_end hs h).elim
  | p :: ps, [], s, t, _, ht, h => (tl_end ht h.symm).elim
  | p :: ps, q :: qs, s, t, hs, ht, h => by
    have h' : 32 :: sg p.1 :: 32 :: (pt p.1.natAbs p.2 ++ tl ps ++ s) = 32 :: sg q.1 :: 32 :: (pt q.1.natAbs q.2 ++ tl qs ++ t) := h
    simp only [List.cons.injEq, true_and, List.append_assoc] at h'
    obtain ⟨h1, h2⟩ := h'
    obtain ⟨a, b, c⟩ := pt_split (tl_stop hs) (tl_stop ht) h2
    obtain ⟨d, e⟩ := tl_split hs ht c
    exact ⟨by rw [d, show p = q from Prod.ext (sg_abs h1 a) b], e⟩
theorem pt_head (v k : Nat) : ∃ c t, pt v k = c :: t ∧ c ≠ 45 ∧ c ≠ 40 := by
  unfold pt
  split
  · obtain ⟨c, t, e, d⟩ := dg_head v
    unfold isD at d
    exact ⟨c, t, e, by omega, by omega⟩
  · split
    · obtain ⟨t, e⟩ := ltr_head k
      exact ⟨_, t, e, by omega, by omega⟩
    · obtain ⟨c, t, e, d⟩ := dg_head v
      unfold isD at d
      exact ⟨c, _, by rw [e]; rfl, by omega, by omega⟩
theorem bd_split {p q : Int × Nat} {ps qs : List (Int × Nat)} {s t : List Nat} (hs : End s) (ht : End t) (h : bd (p :: ps) ++ s = bd (q :: qs) ++ t) : p :: ps = q :: qs ∧ s = t := by
  simp only [bd, List.append_assoc] at h
  obtain ⟨c, u, e, n, _⟩ := pt_head p.1.natAbs p.2
  obtain ⟨c', u', e', n', _⟩ := pt_head q.1.natAbs q.2
  have key : hd p.1 = hd q.1 := by
    unfold hd at h ⊢
    by_cases h1 : p.1 < 0
    · by_cases h2 : q.1 < 0
      · rw [if_pos h1, if_pos h2]
      · rw [if_pos h1, if_neg h2, e'] at h
        simp only [List.cons_append, List.nil_append, List.cons.injEq] at h
        exact (n' h.1.symm).elim
    · by_cases h2 : q.1 < 0
      · rw [if_neg h1, if_pos h2, e] at h
        simp only [List.cons_append, List.nil_append, List.cons.injEq] at h
        exact (n h.1).elim
      · rw [if_neg h1, if_neg h2]
  rw [key] at h
  obtain ⟨a, b, d⟩ := pt_split (tl_stop hs) (tl_stop ht) (List.append_cancel_left h)
  obtain ⟨f, g⟩ := tl_split hs ht d
  have hz : p.1 = q.1 := by
    unfold hd at key
    by_cases h1 : p.1 < 0
    · by_cases h2 : q.1 < 0
      · omega
      · rw [if_pos h1, if_neg h2] at key; cases key
    · by_cases h2 : q.1 < 0
      · rw [if_neg h1, if_pos h2] at key; cases key
      · omega
  exact ⟨by rw [f, show p = q from Prod.ext hz b], g⟩
def sl (o : Nat) : List Nat := 32 :: 47 :: 32 :: dg o
/-- the whole text, of at least one part -/
def full (ps : List (Int × Nat)) (o : Nat) : List Nat := if o = 1 then bd ps else if 1 < ps.length then 40 :: (bd ps ++ 41 :: sl o) else bd ps ++ sl o
theorem sl_inj {a b : Nat} (h : sl a = sl b) : a = b := by
  unfold sl at h
  simp only [List.cons.injEq, true_and] at h
  exact dg_inj h
theorem sl_end (o : Nat) : End (sl o) := .over _
theorem bd_40 {p : Int × Nat} {ps : List (Int × Nat)} {s t : List Nat} (h : bd (p :: ps) ++ s = 40 :: t) : False := by
  simp only [bd, List.append_assoc] at h
  obtain ⟨c, u, e, _, n⟩ := pt_head p.1.natAbs p.2
  rw [e] at h
  unfold hd at h
  split at h
  · simp at h
  · simp only [List.nil_append, List.cons_append, List.cons.injEq] at h
    exact n h.1
theorem full_inj {p q : Int × Nat} {ps qs : List (Int × Nat)} {a b : Nat} (h : full (p :: ps) a = full (q :: qs) b) : p :: ps = q :: qs ∧ a = b := by
  have n0 : ∀ (ps : List (Int × Nat)), bd ps = bd ps ++ [] := fun ps => (List.append_nil _).symm
  unfold full at h
  by_cases a1 : a = 1
  · rw [if_pos a1, n0] at h
    by_cases b1 : b = 1
    · rw [if_pos b1, n0 (q :: qs)] at h
      exact ⟨(bd_split .nil .nil h).1, by omega⟩
    · rw [if_neg b1] at h
      split at h
      · exact (bd_40 h).elim
      · cases (bd_split .nil (sl_end b) h).2
  · rw [if_neg a1] at h
    by_cases b1 : b = 1
    · rw [if_pos b1, n0 (q :: qs)] at h
      split at h
      · exact (bd_40 h.symm).elim
      · cases (bd_split (sl_end a) .nil h).2
    · rw [if_neg b1] at h
      by_cases l1 : 1 < (p :: ps).length
      · rw [if_pos l1] at h
        by_cases l2 : 1 < (q :: qs).length
        · rw [if_pos l2] at h
          simp only [List.cons.injEq, true_and] at h
          obtain ⟨x, y⟩ := bd_split (.par _) (.par _) h
          simp only [List.cons.injEq, true_and] at y
          exact ⟨x, sl_inj y⟩
        · rw [if_neg l2] at h
          exact (bd_40 h.symm).elim
      · rw [if_neg l1] at h
        by_cases l2 : 1 < (q :: qs).length
        · rw [if_pos l2] at h
          exact (bd_40 h).elim
        · rw [if_neg l2] at h
          obtain ⟨x, y⟩ := bd_split (sl_end a) (sl_end b) h
          exact ⟨x, sl_inj y⟩
/-- the parts that are not 0, ascending -/
def nzf : Nat → List Int → List (Int × Nat)
  | _, [] => []
  | k, c :: cs => if c = 0 then nzf (k + 1) cs else (c, k) :: nzf (k + 1) cs
def sumP (b : Int) (ps : List (Int × Nat)) : Int := (ps.map fun p => p.1 * b ^ p.2).sum
theorem nzf_ne (k : Nat) (cs : List Int) : ∀ p ∈ nzf k cs, p.1 ≠ 0 := by
  induction cs generalizing k with
  | nil => intro p hp; cases hp
  | cons c cs ih =>
    intro p hp
    unfold nzf at hp
    split at hp
    · exact ih _ p hp
    · rename_i hc
      rcases List.mem_cons.mp hp with rfl | hp
      · exact hc
      · exact ih _ p hp
end TT
end Eb

/-! ## own: texts by their code points -/
namespace Eb
open PySem PySem.Spec PyProof.Rows L2
def tx (l : List Nat) : Str := ⟨l.toArray⟩
theorem tx_app (a b : List Nat) : tx a ++ tx b = tx (a ++ b) := by
  show (⟨a.toArray ++ b.toArray⟩ : Str) = ⟨(a ++ b).toArray⟩
  simp
theorem tx_len (a : List Nat) : (tx a).length = a.length := by
  show a.toArray.size = a.length
  simp
theorem tx_cps (a : List Nat) : (tx a).cps.toList = a := rfl
theorem tx_eq {a b : List Nat} (h : tx a = tx b) : a = b := congrArg (fun s : Str => s.cps.toList) h
theorem tx_of (s : Str) : s = tx s.cps.toList := rfl
theorem tx_beq (a b : List Nat) : (tx a == tx b) = decide (a = b) := by
  rw [Bool.eq_iff_iff]
  simp only [beq_iff_eq, decide_eq_true_eq]
  exact ⟨tx_eq, fun h => by rw [h]⟩
theorem tx_num (m : Nat) : (Str.ofString (toString ((m : Nat) : Int))) = tx (TT.dg m) := by
  rw [tx_of (Str.ofString _), PySem.W.KIN.signs_num]
  rfl
def joinL (s : List Nat) : List (List Nat) → List Nat
  | [] => []
  | [x] => x
  | x :: y :: r => x ++ s ++ joinL s (y :: r)
theorem tx_join (s : List Nat) : ∀ ls : List (List Nat), Txt.join (tx s) (ls.map tx) = tx (joinL s ls) := by
  intro ls
  unfold Txt.join
  rw [StrLaws.glued_eq_join]
  induction ls with
  | nil => rfl
  | cons x r ih =>
    cases r with
    | nil => rfl
    | cons y r =>
      show tx x ++ tx s ++ Str.join (tx s) ((y :: r).map tx) = _
      rw [ih, tx_app, tx_app]
      rfl
theorem dg_len {m k : Nat} (hk : 0 < k) (h : m < 10 ^ k) : (TT.dg m).length ≤ k := by
  unfold TT.dg
  rw [List.length_map]
  exact (Nat.length_toDigits_le_iff (by decide) hk).mpr h
end Eb

namespace K31
open PySem PySem.Spec PyProof.Rows L2 Eb
noncomputable def t_common_of : DS :=
  (dSeq (dWhile (dTest (dOp gtD (dVar 1) (dC (.int 0)))) (dPar 0 1 (dCons (dVar 1) (dCons (dOp modD (dVar 0) (dVar 1)) dNil))))
  (dRet (dVar 0)))
@[irreducible] noncomputable def wp_common_of : DW := wpOf 2 0 t_common_of
noncomputable def t_has_base : DS :=
  (dSeq (dIfS (dTest (dOp ltD (dVar 1) (dFld [(2, 0)] (dVar 0)))) (dRet (dOp (inD false) (dVar 1) (dFld [(2, 3)] (dVar 0)))) dNext)
  (dRet (dOp (inD false) (dOp modD (dVar 1) (dFld [(2, 1)] (dVar 0))) (dFld [(2, 2)] (dVar 0)))))
@[irreducible] noncomputable def wp_has_base : DW := wpOf 2 0 t_has_base
noncomputable def t_is_mixed : DS :=
  (dSeq (dIfS (dTest (dOp eqD (dVar 0) (dC (.str "&")))) (dRet (dAndT (dVar 1) (dVar 2))) dNext)
  (dSeq (dIfS (dTest (dOp eqD (dVar 0) (dC (.str "|")))) (dRet (dOrT (dVar 1) (dVar 2))) dNext)
  (dSeq (dIfS (dTest (dOp eqD (dVar 0) (dC (.str "-")))) (dRet (dAndT (dVar 1) (dNotT (dVar 2)))) dNext)
  (dRet (dOp neD (dVar 1) (dVar 2))))))
@[irreducible] noncomputable def wp_is_mixed : DW := wpOf 3 0 t_is_mixed
noncomputable def t_divisors_of : DS :=
  (dRet (dL (dLc (dRg2 (dCons (dC (.int 1)) (dCons (dOp addD (dVar 0) (dC (.int 1))) dNil))) (gN 1) (dTest (dOp eqD (dOp modD (dVar 0) (dVar 1)) (dC (.int 0)))) (dVar 1) [1])))
@[irreducible] noncomputable def wp_divisors_of : DW := wpOf 1 1 t_divisors_of
noncomputable def t_least_period : DS :=
  (dSeq (dFor (dItL (dF0 wp_divisors_of (dCons (dCB lenD (dCons (dVar 0) dNil)) dNil))) (gN 1) (dIfS (dTest (dOp eqD (dVar 0) (dOp mulD (dSl (dVar 0) dNoPart (dPart (dVar 1))) (dOp fdivD (dCB lenD (dCons (dVar 0) dNil)) (dVar 1))))) (dRet (dVar 1)) dNext))
  (dRet (dCB lenD (dCons (dVar 0) dNil))))
@[irreducible] noncomputable def wp_least_period : DW := wpOf 1 1 t_least_period
noncomputable def t_Bases_init : DS :=
  (dSeq (dSelf 0 2 0 (dVar 1))
  (dSeq (dSelf 0 2 1 (dVar 2))
  (dSeq (dSelf 0 2 2 (dVar 3))
  (dSelf 0 2 3 (dVar 4)))))
@[irreducible] noncomputable def wp_Bases_init : DWI := (wpOfI 2 4 4 0 t_Bases_init)
noncomputable def t_settled_bases : DS :=
  (dSeq (dSet 2 (dL (dCL listD (dCons (dSl (dVar 1) dNoPart (dPart (dF0 wp_least_period (dCons (dL (dCL listD (dCons (dVar 1) dNil))) dNil)))) dNil))))
  (dSeq (dSetO 3 (dCL listD (dCons (dVar 0) dNil)))
  (dSeq (dWhile (dAnd (dTest (nilO 3 true)) (dTest (dOp eqD (ixO 3 (dUn negD (dC (.int 1)))) (dOp ixD (dVar 2) (dOp modD (dOp subD (dOp addD (dC (.int 2)) (lenO 3)) (dC (.int 1))) (dCB lenD (dCons (dVar 2) dNil))))))) (dPop 3))
  (dSeq (dFrz 3 (dSet 4 (dL (dLc (dEn isL (dVar 3)) (gT [6, 7]) (dTruth (dVar 7)) (dOp addD (dC (.int 2)) (dVar 6)) [6, 7]))))
  (dSeq (dSet 5 (dL (dLc (dEn isL (dVar 2)) (gT [8, 7]) (dTruth (dVar 7)) (dVar 8) [8, 7])))
  (dRet (dMk 2 wp_Bases_init (dCons (dOp addD (dC (.int 2)) (lenO 3)) (dCons (dCB lenD (dCons (dVar 2) dNil)) (dCons (dCB tupleD (dCons (dVar 5) dNil)) (dCons (dCB tupleD (dCons (dVar 4) dNil)) dNil)))))))))))
@[irreducible] noncomputable def wp_settled_bases : DW := wpOf 2 7 t_settled_bases
noncomputable def t_mixed : DS :=
  (dSeq (dSet 3 (dCB max2D (dCons (dCB int1D (dCons (dFld [(2, 0)] (dVar 1)) dNil)) (dCons (dCB int1D (dCons (dFld [(2, 0)] (dVar 2)) dNil)) dNil))))
  (dSeq (dSet 4 (dOp fdivD (dOp mulD (dFld [(2, 1)] (dVar 1)) (dFld [(2, 1)] (dVar 2))) (dF0 wp_common_of (dCons (dFld [(2, 1)] (dVar 1)) (dCons (dFld [(2, 1)] (dVar 2)) dNil)))))
  (dSeq (dSet 5 (dL (dLc (dRg2 (dCons (dC (.int 2)) (dCons (dVar 3) dNil))) (gN 8) dYes (dF0 wp_is_mixed (dCons (dVar 0) (dCons (dF0 wp_has_base (dCons (dVar 1) (dCons (dVar 8) dNil))) (dCons (dF0 wp_has_base (dCons (dVar 2) (dCons (dVar 8) dNil))) dNil)))) [8])))
  (dSeq (dSetO 6 (dLst dNil))
  (dSeq (dFor (dRg1 (dCons (dVar 4) dNil)) (gN 7) (dApp 6 (dF0 wp_is_mixed (dCons (dVar 0) (dCons (dOp (inD false) (dOp modD (dVar 7) (dFld [(2, 1)] (dVar 1))) (dFld [(2, 2)] (dVar 1))) (dCons (dOp (inD false) (dOp modD (dVar 7) (dFld [(2, 1)] (dVar 2))) (dFld [(2, 2)] (dVar 2))) dNil))))))
  (dFrz 6 (dRet (dF0 wp_settled_bases (dCons (dVar 5) (dCons (dVar 6) dNil))))))))))
@[irreducible] noncomputable def wp_mixed : DW := wpOf 3 6 t_mixed
noncomputable def t_Bases_and : DS :=
  (dRet (dF0 wp_mixed (dCons (dC (.str "&")) (dCons (dVar 0) (dCons (dVar 1) dNil)))))
@[irreducible] noncomputable def wp_Bases_and : DW := wpOf 2 0 t_Bases_and
noncomputable def t_Bases_eq : DS :=
  (dSeq (dIfS (dNot (dTruth (dIsC [(2, true)] (dVar 1)))) (dRet (dC (.bl false))) dNext)
  (dRet (dOp eqD (dTup (dCons (dFld [(2, 0)] (dVar 0)) (dCons (dFld [(2, 1)] (dVar 0)) (dCons (dFld [(2, 2)] (dVar 0)) (dCons (dFld [(2, 3)] (dVar 0)) dNil))))) (dTup (dCons (dFld [(2, 0)] (dVar 1)) (dCons (dFld [(2, 1)] (dVar 1)) (dCons (dFld [(2, 2)] (dVar 1)) (dCons (dFld [(2, 3)] (dVar 1)) dNil))))))))
@[irreducible] noncomputable def wp_Bases_eq : DW := wpOf 2 0 t_Bases_eq
noncomputable def t_Bases_every : DS :=
  (dRet (dF0 wp_settled_bases (dCons (dL (dLst dNil)) (dCons (dL (dLst (dCons (dC (.bl true)) dNil))) dNil))))
@[irreducible] noncomputable def wp_Bases_every : DW := wpOf 1 0 t_Bases_every
noncomputable def t_Bases_invert : DS :=
  (dRet (dF0 wp_mixed (dCons (dC (.str "-")) (dCons (dCM 2 wp_Bases_every dNil) (dCons (dVar 0) dNil)))))
@[irreducible] noncomputable def wp_Bases_invert : DW := wpOf 1 0 t_Bases_invert
noncomputable def t_Bases_or : DS :=
  (dRet (dF0 wp_mixed (dCons (dC (.str "|")) (dCons (dVar 0) (dCons (dVar 1) dNil)))))
@[irreducible] noncomputable def wp_Bases_or : DW := wpOf 2 0 t_Bases_or
noncomputable def t_Bases_sub : DS :=
  (dRet (dF0 wp_mixed (dCons (dC (.str "-")) (dCons (dVar 0) (dCons (dVar 1) dNil)))))
@[irreducible] noncomputable def wp_Bases_sub : DW := wpOf 2 0 t_Bases_sub
noncomputable def t_Bases_xor : DS :=
  (dRet (dF0 wp_mixed (dCons (dC (.str "^")) (dCons (dVar 0) (dCons (dVar 1) dNil)))))
@[irreducible] noncomputable def wp_Bases_xor : DW := wpOf 2 0 t_Bases_xor
noncomputable def t__law_pick : DS :=
  (dRet (dOp ixD (dVar 1) (dG0 0 wpDraw (dCons (dCB lenD (dCons (dVar 1) dNil)) dNil))))
@[irreducible] noncomputable def wp__law_pick : DW := wpOfG 1 0 t__law_pick
noncomputable def t__law_great : DS :=
  (dSeq (dSet 1 (dG0 0 wpDraw (dCons (dC (.int 3)) dNil)))
  (dSeq (dIfS (dTest (dOp eqD (dVar 1) (dC (.int 0)))) (dSeq (dSet 2 (dTup (dCons (dC (.str "rest")) (dCons (dOp addD (dC (.int 97)) (dG0 0 wpDraw (dCons (dC (.int 3)) dNil))) (dCons (dG0 0 wpDraw (dCons (dC (.int 97)) dNil)) dNil)))))
  (dRet (dTup (dCons (dVar 2) (dCons (dTup (dCons (dC (.str "rest")) (dCons (dOp addD (dC (.int 98)) (dG0 0 wpDraw (dCons (dC (.int 3)) dNil))) (dCons (dG0 0 wpDraw (dCons (dC (.int 97)) dNil)) dNil)))) dNil))))) dNext)
  (dSeq (dIfS (dTest (dOp eqD (dVar 1) (dC (.int 1)))) (dSeq (dSet 2 (dTup (dCons (dC (.str "rest")) (dCons (dC (.int 360)) (dCons (dG0 0 wpDraw (dCons (dC (.int 400)) dNil)) dNil)))))
  (dRet (dTup (dCons (dVar 2) (dCons (dTup (dCons (dC (.str "rest")) (dCons (dG0 0 wp__law_pick (dCons (dL (dLst (dCons (dC (.int 8)) (dCons (dC (.int 16)) (dCons (dC (.int 24)) (dCons (dC (.int 25)) (dCons (dC (.int 27)) dNil))))))) dNil)) (dCons (dG0 0 wpDraw (dCons (dC (.int 30)) dNil)) dNil)))) dNil))))) dNext)
  (dSeq (dSet 3 (dCB tupleD (dCons (dL (dLc (dRg1 (dCons (dOp addD (dC (.int 1)) (dG0 0 wpDraw (dCons (dC (.int 5)) dNil))) dNil)) (gN 4) dYes (dOp addD (dC (.int 2)) (dG0 0 wpDraw (dCons (dC (.int 4988)) dNil))) [4])) dNil)))
  (dSeq (dSet 2 (dTup (dCons (dC (.str "|")) (dCons (dTup (dCons (dC (.str "upward")) (dCons (dOp addD (dC (.int 4000)) (dG0 0 wpDraw (dCons (dC (.int 990)) dNil))) dNil))) (dCons (dTup (dCons (dC (.str "rest")) (dCons (dOp addD (dC (.int 1)) (dG0 0 wpDraw (dCons (dC (.int 6)) dNil))) (dCons (dC (.int 0)) dNil)))) dNil)))))
  (dRet (dTup (dCons (dVar 2) (dCons (dTup (dCons (dC (.str "^")) (dCons (dTup (dCons (dC (.str "of")) (dCons (dVar 3) dNil))) (dCons (dTup (dCons (dC (.str "rest")) (dCons (dOp addD (dC (.int 1)) (dG0 0 wpDraw (dCons (dC (.int 6)) dNil))) (dCons (dC (.int 0)) dNil)))) dNil)))) dNil)))))))))
@[irreducible] noncomputable def wp__law_great : DW := wpOfG 0 4 t__law_great
noncomputable def t__law_in (wp : DW) : DS :=
  (dSeq (dIfS (dTest (dOp eqD (dOp ixD (dVar 0) (dC (.int 0))) (dC (.str "of")))) (dRet (dOp (inD false) (dVar 1) (dOp ixD (dVar 0) (dC (.int 1))))) dNext)
  (dSeq (dIfS (dTest (dOp eqD (dOp ixD (dVar 0) (dC (.int 0))) (dC (.str "rest")))) (dRet (dOp eqD (dOp modD (dCB int1D (dCons (dOp subD (dVar 1) (dOp ixD (dVar 0) (dC (.int 2)))) dNil)) (dOp ixD (dVar 0) (dC (.int 1)))) (dC (.int 0)))) dNext)
  (dSeq (dIfS (dTest (dOp (inD false) (dOp ixD (dVar 0) (dC (.int 0))) (dTup (dCons (dC (.str "none")) (dCons (dC (.str "every")) dNil))))) (dRet (dOp eqD (dOp ixD (dVar 0) (dC (.int 0))) (dC (.str "every")))) dNext)
  (dSeq (dIfS (dTest (dOp eqD (dOp ixD (dVar 0) (dC (.int 0))) (dC (.str "upward")))) (dRet (dOp geD (dVar 1) (dOp ixD (dVar 0) (dC (.int 1))))) dNext)
  (dSeq (dSet 2 (dF0 wp (dCons (dOp ixD (dVar 0) (dC (.int 1))) (dCons (dVar 1) dNil))))
  (dSeq (dIfS (dTest (dOp eqD (dOp ixD (dVar 0) (dC (.int 0))) (dC (.str "~")))) (dRet (dNotT (dVar 2))) dNext)
  (dSeq (dSet 3 (dF0 wp (dCons (dOp ixD (dVar 0) (dC (.int 2))) (dCons (dVar 1) dNil))))
  (dRet (dDict ["&", "|", "-", "^"] (dCons (dAndT (dVar 2) (dVar 3)) (dCons (dOrT (dVar 2) (dVar 3)) (dCons (dAndT (dVar 2) (dNotT (dVar 3))) (dCons (dOp neD (dVar 2) (dVar 3)) dNil)))) (dOp ixD (dVar 0) (dC (.int 0))))))))))))
@[irreducible] noncomputable def wp__law_in (n : Nat) : DW := Nat.rec (motive := fun _ => DW) (wpOf 2 2 dNever) (fun _ r => wpOf 2 2 (t__law_in r)) n
theorem wpz__law_in : wp__law_in 0 = wpOf 2 2 dNever := by unfold wp__law_in; rfl
theorem wps__law_in (n : Nat) : wp__law_in (n + 1) = wpOf 2 2 (t__law_in (wp__law_in n)) := by unfold wp__law_in; rfl
noncomputable def t__law_span (wp : DW) : DS :=
  (dSeq (dIfS (dTest (dOp eqD (dOp ixD (dVar 0) (dC (.int 0))) (dC (.str "of")))) (dSeq (dSet 1 (dC (.int 1)))
  (dSeq (dFor (dItT (dOp ixD (dVar 0) (dC (.int 1)))) (gN 2) (dSet 1 (dCB max2D (dCons (dCB int1D (dCons (dVar 1) dNil)) (dCons (dCB int1D (dCons (dVar 2) dNil)) dNil)))))
  (dRet (dTup (dCons (dOp addD (dVar 1) (dC (.int 1))) (dCons (dC (.int 1)) dNil)))))) dNext)
  (dSeq (dIfS (dTest (dOp eqD (dOp ixD (dVar 0) (dC (.int 0))) (dC (.str "upward")))) (dRet (dTup (dCons (dCB max2D (dCons (dC (.int 2)) (dCons (dCB int1D (dCons (dOp ixD (dVar 0) (dC (.int 1))) dNil)) dNil))) (dCons (dC (.int 1)) dNil)))) dNext)
  (dSeq (dIfS (dTest (dOp eqD (dCB lenD (dCons (dVar 0) dNil)) (dC (.int 1)))) (dRet (dTup (dCons (dC (.int 2)) (dCons (dC (.int 1)) dNil)))) dNext)
  (dSeq (dIfS (dTest (dOp eqD (dOp ixD (dVar 0) (dC (.int 0))) (dC (.str "rest")))) (dRet (dTup (dCons (dC (.int 2)) (dCons (dOp ixD (dVar 0) (dC (.int 1))) dNil)))) dNext)
  (dSeq (dSet 3 (dF0 wp (dCons (dOp ixD (dVar 0) (dC (.int 1))) dNil)))
  (dSeq (dIfS (dTest (dOp eqD (dOp ixD (dVar 0) (dC (.int 0))) (dC (.str "~")))) (dRet (dVar 3)) dNext)
  (dSeq (dSet 4 (dF0 wp (dCons (dOp ixD (dVar 0) (dC (.int 2))) dNil)))
  (dSeq (dSet 5 (dOp ixD (dVar 3) (dC (.int 1))))
  (dSeq (dWhile (dTest (dOp neD (dOp modD (dCB int1D (dCons (dVar 5) dNil)) (dOp ixD (dVar 4) (dC (.int 1)))) (dC (.int 0)))) (dSet 5 (dOp addD (dVar 5) (dOp ixD (dVar 3) (dC (.int 1))))))
  (dRet (dTup (dCons (dCB max2D (dCons (dCB int1D (dCons (dOp ixD (dVar 3) (dC (.int 0))) dNil)) (dCons (dCB int1D (dCons (dOp ixD (dVar 4) (dC (.int 0))) dNil)) dNil))) (dCons (dVar 5) dNil)))))))))))))
@[irreducible] noncomputable def wp__law_span (n : Nat) : DW := Nat.rec (motive := fun _ => DW) (wpOf 1 5 dNever) (fun _ r => wpOf 1 5 (t__law_span r)) n
theorem wpz__law_span : wp__law_span 0 = wpOf 1 5 dNever := by unfold wp__law_span; rfl
theorem wps__law_span (n : Nat) : wp__law_span (n + 1) = wpOf 1 5 (t__law_span (wp__law_span n)) := by unfold wp__law_span; rfl
noncomputable def t__law_told : DS :=
  (dSeq (dAsg (dF0 (wp__law_span 5) (dCons (dVar 0) dNil)) (gT [1, 2]))
  (dSeq (dSet 3 (dL (dLc (dRg1 (dCons (dOp addD (dVar 1) (dOp mulD (dC (.int 2)) (dVar 2))) dNil)) (gN 8) dYes (dF0 (wp__law_in 5) (dCons (dVar 0) (dCons (dVar 8) dNil))) [8])))
  (dSeq (dSet 4 (dSl (dVar 3) (dPart (dVar 1)) (dPart (dOp addD (dVar 1) (dVar 2)))))
  (dSeq (dSet 5 (dOp ixD (dL (dLc (dRg2 (dCons (dC (.int 1)) (dCons (dOp addD (dVar 2) (dC (.int 1))) dNil))) (gN 9) (dAnd (dTest (dOp eqD (dOp modD (dCB int1D (dCons (dVar 2) dNil)) (dVar 9)) (dC (.int 0)))) (dTest (dOp eqD (dVar 4) (dOp addD (dSl (dVar 4) (dPart (dVar 9)) dNoPart) (dSl (dVar 4) dNoPart (dPart (dVar 9))))))) (dVar 9) [9])) (dC (.int 0))))
  (dSeq (dSet 6 (dVar 1))
  (dSeq (dWhile (dAnd (dTest (dOp gtD (dVar 6) (dC (.int 2)))) (dTest (dOp eqD (dOp ixD (dVar 3) (dOp subD (dVar 6) (dC (.int 1)))) (dOp ixD (dVar 3) (dOp addD (dOp subD (dVar 6) (dC (.int 1))) (dVar 5)))))) (dSet 6 (dOp subD (dVar 6) (dC (.int 1)))))
  (dSeq (dSet 7 (dL (dCL sortedD (dCons (dL (dLc (dRg2 (dCons (dVar 6) (dCons (dOp addD (dVar 6) (dVar 5)) dNil))) (gN 8) (dTruth (dOp ixD (dVar 3) (dVar 8))) (dCB int1D (dCons (dOp modD (dCB int1D (dCons (dVar 8) dNil)) (dVar 5)) dNil)) [8])) dNil))))
  (dRet (dTup (dCons (dVar 6) (dCons (dVar 5) (dCons (dCB tupleD (dCons (dVar 7) dNil)) (dCons (dCB tupleD (dCons (dL (dLc (dRg2 (dCons (dC (.int 2)) (dCons (dVar 6) dNil))) (gN 8) (dTruth (dOp ixD (dVar 3) (dVar 8))) (dVar 8) [8])) dNil)) dNil)))))))))))))
@[irreducible] noncomputable def wp__law_told : DW := wpOf 1 9 t__law_told
noncomputable def t__law_is : DS :=
  (dRet (dOp eqD (dCB reprD (dCons (dTup (dCons (dFld [(2, 0)] (dVar 0)) (dCons (dFld [(2, 1)] (dVar 0)) (dCons (dFld [(2, 2)] (dVar 0)) (dCons (dFld [(2, 3)] (dVar 0)) dNil))))) dNil)) (dCB reprD (dCons (dF0 wp__law_told (dCons (dVar 1) dNil)) dNil))))
@[irreducible] noncomputable def wp__law_is : DW := wpOf 2 0 t__law_is
noncomputable def t_Bases_none : DS :=
  (dRet (dF0 wp_settled_bases (dCons (dL (dLst dNil)) (dCons (dL (dLst (dCons (dC (.bl false)) dNil))) dNil))))
@[irreducible] noncomputable def wp_Bases_none : DW := wpOf 1 0 t_Bases_none
noncomputable def t_is_integer : DS :=
  (dRet (dAndT (dIsT .int [2] (dVar 0)) (dNotT (dIsT .bool [2] (dVar 0)))))
@[irreducible] noncomputable def wp_is_integer : DW := wpOf 1 0 t_is_integer
noncomputable def t_is_base : DS :=
  (dRet (dAndT (dF0 wp_is_integer (dCons (dVar 0) dNil)) (dOp geD (dVar 0) (dC (.int 2)))))
@[irreducible] noncomputable def wp_is_base : DW := wpOf 1 0 t_is_base
noncomputable def t_Bases_of : DS :=
  (dSeq (dFor (dItT (dVar 1)) (gN 2) (dIfS (dNot (dTruth (dF0 wp_is_base (dCons (dVar 2) dNil)))) dNever dNext))
  (dSeq (dSet 3 (dCB tupleD (dCons (dL (dSortSet (dL (dLc (dItT (dVar 1)) (gN 2) dYes (dCB int1D (dCons (dVar 2) dNil)) [2])))) dNil)))
  (dRet (dMkL 0 2 wp_Bases_init (dCons (dIf (dTest (dOp gtD (dCB lenD (dCons (dVar 3) dNil)) (dC (.int 0)))) (dOp addD (dOp ixD (dVar 3) (dUn negD (dC (.int 1)))) (dC (.int 1))) (dC (.int 2))) (dCons (dC (.int 1)) (dCons (dTup dNil) (dCons (dVar 3) dNil))))))))
@[irreducible] noncomputable def wp_Bases_of : DW := wpOf 2 2 t_Bases_of
noncomputable def t_Bases_rest : DS :=
  (dRet (dF0 wp_settled_bases (dCons (dL (dLst dNil)) (dCons (dL (dLc (dRg1 (dCons (dVar 1) dNil)) (gN 3) dYes (dOp eqD (dVar 3) (dOp modD (dVar 2) (dVar 1))) [3])) dNil))))
@[irreducible] noncomputable def wp_Bases_rest : DW := wpOf 3 1 t_Bases_rest
noncomputable def t_Bases_upward : DS :=
  (dRet (dMkL 0 2 wp_Bases_init (dCons (dCB max2D (dCons (dC (.int 2)) (dCons (dCB int1D (dCons (dVar 1) dNil)) dNil))) (dCons (dC (.int 1)) (dCons (dTup (dCons (dC (.int 0)) dNil)) (dCons (dTup dNil) dNil))))))
@[irreducible] noncomputable def wp_Bases_upward : DW := wpOf 2 0 t_Bases_upward
noncomputable def t__law_set_of (wp : DW) : DS :=
  (dSeq (dIfS (dTest (dOp eqD (dOp ixD (dVar 0) (dC (.int 0))) (dC (.str "of")))) (dRet (dCM 2 wp_Bases_of (dCons (dOp ixD (dVar 0) (dC (.int 1))) dNil))) dNext)
  (dSeq (dIfS (dTest (dOp eqD (dOp ixD (dVar 0) (dC (.int 0))) (dC (.str "rest")))) (dRet (dCM 2 wp_Bases_rest (dCons (dOp ixD (dVar 0) (dC (.int 1))) (dCons (dOp ixD (dVar 0) (dC (.int 2))) dNil)))) dNext)
  (dSeq (dIfS (dTest (dOp eqD (dOp ixD (dVar 0) (dC (.int 0))) (dC (.str "upward")))) (dRet (dCM 2 wp_Bases_upward (dCons (dOp ixD (dVar 0) (dC (.int 1))) dNil))) dNext)
  (dSeq (dIfS (dTest (dOp eqD (dCB lenD (dCons (dVar 0) dNil)) (dC (.int 1)))) (dRet (dIf (dTest (dOp eqD (dOp ixD (dVar 0) (dC (.int 0))) (dC (.str "none")))) (dCM 2 wp_Bases_none dNil) (dCM 2 wp_Bases_every dNil))) dNext)
  (dSeq (dSet 1 (dF0 wp (dCons (dOp ixD (dVar 0) (dC (.int 1))) dNil)))
  (dSeq (dIfS (dTest (dOp eqD (dOp ixD (dVar 0) (dC (.int 0))) (dC (.str "~")))) (dRet (dUn (un1D 2 wp_Bases_invert) (dVar 1))) dNext)
  (dSeq (dSet 2 (dF0 wp (dCons (dOp ixD (dVar 0) (dC (.int 2))) dNil)))
  (dSeq (dIfS (dTest (dOp eqD (dOp ixD (dVar 0) (dC (.int 0))) (dC (.str "&")))) (dRet (dOp (opAD 2 wp_Bases_and) (dVar 1) (dVar 2))) dNext)
  (dSeq (dIfS (dTest (dOp eqD (dOp ixD (dVar 0) (dC (.int 0))) (dC (.str "|")))) (dRet (dOp (opAD 2 wp_Bases_or) (dVar 1) (dVar 2))) dNext)
  (dRet (dIf (dTest (dOp eqD (dOp ixD (dVar 0) (dC (.int 0))) (dC (.str "-")))) (dOp (opAD 2 wp_Bases_sub) (dVar 1) (dVar 2)) (dOp (opAD 2 wp_Bases_xor) (dVar 1) (dVar 2)))))))))))))
@[irreducible] noncomputable def wp__law_set_of (n : Nat) : DW := Nat.rec (motive := fun _ => DW) (wpOf 1 2 dNever) (fun _ r => wpOf 1 2 (t__law_set_of r)) n
theorem wpz__law_set_of : wp__law_set_of 0 = wpOf 1 2 dNever := by unfold wp__law_set_of; rfl
theorem wps__law_set_of (n : Nat) : wp__law_set_of (n + 1) = wpOf 1 2 (t__law_set_of (wp__law_set_of n)) := by unfold wp__law_set_of; rfl
noncomputable def t__law_great_right : DS :=
  (dSeq (dAsg (dG0 0 wp__law_great dNil) (gT [1, 2]))
  (dSeq (dPar3 3 4 5 (dCons (dF0 (wp__law_set_of 5) (dCons (dVar 1) dNil)) (dCons (dF0 (wp__law_set_of 5) (dCons (dVar 2) dNil)) (dCons (dG0 0 wp__law_pick (dCons (dC (.str "&|-^")) dNil)) dNil))))
  (dSeq (dSet 6 (dIf (dTest (dOp eqD (dVar 5) (dC (.str "&")))) (dOp (opAD 2 wp_Bases_and) (dVar 3) (dVar 4)) (dIf (dTest (dOp eqD (dVar 5) (dC (.str "|")))) (dOp (opAD 2 wp_Bases_or) (dVar 3) (dVar 4)) (dIf (dTest (dOp eqD (dVar 5) (dC (.str "-")))) (dOp (opAD 2 wp_Bases_sub) (dVar 3) (dVar 4)) (dOp (opAD 2 wp_Bases_xor) (dVar 3) (dVar 4))))))
  (dRet (dF0 wp__law_is (dCons (dVar 6) (dCons (dTup (dCons (dVar 5) (dCons (dVar 1) (dCons (dVar 2) dNil)))) dNil)))))))
@[irreducible] noncomputable def wp__law_great_right : DW := wpOfG 0 6 t__law_great_right
noncomputable def t__law_atom : DS :=
  (dSeq (dSet 1 (dG0 0 wpDraw (dCons (dC (.int 7)) dNil)))
  (dSeq (dIfS (dTest (dOp ltD (dVar 1) (dC (.int 2)))) (dRet (dTup (dCons (dC (.str "of")) (dCons (dCB tupleD (dCons (dL (dLc (dRg1 (dCons (dG0 0 wpDraw (dCons (dC (.int 6)) dNil)) dNil)) (gN 2) dYes (dOp addD (dC (.int 2)) (dG0 0 wpDraw (dCons (dOp ixD (dL (dLst (dCons (dC (.int 9)) (dCons (dC (.int 40)) dNil)))) (dVar 1)) dNil))) [2])) dNil)) dNil)))) dNext)
  (dSeq (dIfS (dTest (dOp ltD (dVar 1) (dC (.int 5)))) (dRet (dTup (dCons (dC (.str "rest")) (dCons (dG0 0 wp__law_pick (dCons (dL (dLst (dCons (dC (.int 1)) (dCons (dC (.int 2)) (dCons (dC (.int 3)) (dCons (dC (.int 4)) (dCons (dC (.int 5)) (dCons (dC (.int 6)) (dCons (dC (.int 10)) (dCons (dC (.int 12)) dNil)))))))))) dNil)) (dCons (dOp subD (dG0 0 wpDraw (dCons (dC (.int 40)) dNil)) (dC (.int 15))) dNil))))) dNext)
  (dSeq (dIfS (dTest (dOp eqD (dVar 1) (dC (.int 5)))) (dRet (dTup (dCons (dC (.str "upward")) (dCons (dOp subD (dG0 0 wpDraw (dCons (dC (.int 40)) dNil)) (dC (.int 5))) dNil)))) dNext)
  (dRet (dG0 0 wp__law_pick (dCons (dL (dLst (dCons (dTup (dCons (dC (.str "none")) dNil)) (dCons (dTup (dCons (dC (.str "every")) dNil)) dNil)))) dNil)))))))
@[irreducible] noncomputable def wp__law_atom : DW := wpOfG 0 2 t__law_atom
noncomputable def t__law_model (wp : DW) : DS :=
  (dSeq (dSet 2 (dG0 0 wpDraw (dCons (dC (.int 7)) dNil)))
  (dSeq (dIfS (dOr (dTest (dOp eqD (dVar 1) (dC (.int 0)))) (dTest (dOp ltD (dVar 2) (dC (.int 2))))) (dRet (dG0 0 wp__law_atom dNil)) dNext)
  (dSeq (dSet 3 (dG0 0 wp (dCons (dOp subD (dVar 1) (dC (.int 1))) dNil)))
  (dSeq (dIfS (dTest (dOp eqD (dVar 2) (dC (.int 2)))) (dRet (dTup (dCons (dC (.str "~")) (dCons (dVar 3) dNil)))) dNext)
  (dRet (dTup (dCons (dOp ixD (dC (.str "&|-^")) (dOp subD (dVar 2) (dC (.int 3)))) (dCons (dVar 3) (dCons (dG0 0 wp (dCons (dOp subD (dVar 1) (dC (.int 1))) dNil)) dNil)))))))))
@[irreducible] noncomputable def wp__law_model (n : Nat) : DW := Nat.rec (motive := fun _ => DW) (wpOfG 1 2 dNever) (fun _ r => wpOfG 1 2 (t__law_model r)) n
theorem wpz__law_model : wp__law_model 0 = wpOfG 1 2 dNever := by unfold wp__law_model; rfl
theorem wps__law_model (n : Nat) : wp__law_model (n + 1) = wpOfG 1 2 (t__law_model (wp__law_model n)) := by unfold wp__law_model; rfl
noncomputable def t_Bases_str : DS :=
  (dSeq (dSetO 1 (dLst dNil))
  (dSeq (dIfS (dTest (dOp gtD (dCB lenD (dCons (dFld [(2, 3)] (dVar 0)) dNil)) (dC (.int 0)))) (dApp 1 (dJoin (dC (.str " ")) (dL (dLc (dItT (dFld [(2, 3)] (dVar 0))) (gN 4) dYes (dCB strD (dCons (dVar 4) dNil)) [4])))) dNext)
  (dSeq (dIfS (dTest (dOp gtD (dCB lenD (dCons (dFld [(2, 2)] (dVar 0)) dNil)) (dC (.int 0)))) (dSeq (dSet 2 (dJoin (dC (.str " ")) (dL (dLc (dItT (dFld [(2, 2)] (dVar 0))) (gN 3) dYes (dCB strD (dCons (dVar 3) dNil)) [3]))))
  (dApp 1 (dJoined [(dC (.str "from ")), (dFmt (dFld [(2, 0)] (dVar 0))), (dC (.str ": ")), (dFmt (dVar 2)), (dC (.str " of ")), (dFmt (dFld [(2, 1)] (dVar 0)))]))) dNext)
  (dSeq (dIfS (dTest (dOp eqD (lenO 1) (dC (.int 0)))) (dRet (dC (.str "none"))) dNext)
  (dFrz 1 (dRet (dJoin (dC (.str ", ")) (dVar 1))))))))
@[irreducible] noncomputable def wp_Bases_str : DW := wpOf 1 4 t_Bases_str
noncomputable def t_law : DS :=
  (dSeq (dIfS (dNot (dTruth (dG0 1 wp__law_great_right dNil))) (dRet (dC (.bl false))) dNext)
  (dSeq (dFor (dRg1 (dCons (dC (.int 4)) dNil)) (gN 2) (dSeq (dPar 3 4 (dCons (dG0 1 (wp__law_model 5) (dCons (dC (.int 3)) dNil)) (dCons (dG0 1 (wp__law_model 5) (dCons (dC (.int 2)) dNil)) dNil)))
  (dSeq (dPar 5 6 (dCons (dF0 (wp__law_set_of 5) (dCons (dVar 3) dNil)) (dCons (dF0 (wp__law_set_of 5) (dCons (dVar 4) dNil)) dNil)))
  (dSeq (dIfS (dOr (dNot (dTruth (dF0 wp__law_is (dCons (dVar 5) (dCons (dVar 3) dNil))))) (dOr (dNot (dTruth (dF0 wp__law_is (dCons (dVar 6) (dCons (dVar 4) dNil))))) (dNot (dTruth (dF0 wp__law_is (dCons (dUn (un1D 2 wp_Bases_invert) (dVar 5)) (dCons (dTup (dCons (dC (.str "~")) (dCons (dVar 3) dNil))) dNil))))))) (dRet (dC (.bl false))) dNext)
  (dSeq (dAsg (dTup (dCons (dVar 5) (dCons (dVar 5) (dCons (dVar 5) (dCons (dVar 5) dNil))))) (gT [7, 8, 9, 10]))
  (dSeq (dAugO 7 2 wp_Bases_or (dVar 6))
  (dSeq (dAugO 8 2 wp_Bases_sub (dVar 6))
  (dSeq (dAugO 9 2 wp_Bases_and (dVar 6))
  (dSeq (dAugO 10 2 wp_Bases_xor (dVar 6))
  (dSeq (dFor (dItT (dTup (dCons (dTup (dCons (dVar 7) (dCons (dC (.str "|")) dNil))) (dCons (dTup (dCons (dVar 8) (dCons (dC (.str "-")) dNil))) (dCons (dTup (dCons (dVar 9) (dCons (dC (.str "&")) dNil))) (dCons (dTup (dCons (dVar 10) (dCons (dC (.str "^")) dNil))) dNil)))))) (gT [11, 12]) (dIfS (dNot (dTruth (dF0 wp__law_is (dCons (dVar 11) (dCons (dTup (dCons (dVar 12) (dCons (dVar 3) (dCons (dVar 4) dNil)))) dNil))))) (dRet (dC (.bl false))) dNext))
  (dSeq (dIfS (dOr (dNot (dTruth (dF0 wp__law_is (dCons (dVar 5) (dCons (dVar 3) dNil))))) (dNot (dTruth (dF0 wp__law_is (dCons (dVar 6) (dCons (dVar 4) dNil)))))) (dRet (dC (.bl false))) dNext)
  (dSeq (dIfS (dTest (dOp neD (dOp (op2D 2 wp_Bases_eq) (dVar 5) (dVar 6)) (dOp eqD (dF0 wp__law_told (dCons (dVar 3) dNil)) (dF0 wp__law_told (dCons (dVar 4) dNil))))) (dRet (dC (.bl false))) dNext)
  (dIfS (dTest (dOp (inTD 2 wp_Bases_eq) (dVar 5) (dTup (dCons (dC .non) (dCons (dFld [(2, 3)] (dVar 5)) (dCons (dCB (strOD 2 wp_Bases_str) (dCons (dVar 5) dNil)) (dCons (dF0 wp__law_told (dCons (dVar 3) dNil)) dNil))))))) (dRet (dC (.bl false))) dNext)))))))))))))
  (dRet (dC (.bl true)))))
def w_law : Prop := t_law [.un, .dl, .un, .un, .un, .un, .un, .un, .un, .un, .un, .un, .un] (endsF (fun d => d = .bl true) (fun _ => False))
end K31

namespace K31
open PySem PySem.Spec PyProof.Rows L2 Eb
theorem sc__wall : FnScope ["k"] ["k"] (defScope s__wall) := ⟨rfl, rfl, rfl, by decide +kernel, rfl, by decide +kernel, by decide +kernel⟩
theorem sc_is_integer : FnScope ["value"] ["value"] (defScope s_is_integer) := ⟨rfl, rfl, rfl, by decide +kernel, rfl, by decide +kernel, by decide +kernel⟩
theorem sc_is_base : FnScope ["value"] ["value"] (defScope s_is_base) := ⟨rfl, rfl, rfl, by decide +kernel, rfl, by decide +kernel, by decide +kernel⟩
theorem sc_common_of : FnScope ["one", "other"] ["one", "other"] (defScope s_common_of) := ⟨rfl, rfl, rfl, by decide +kernel, rfl, by decide +kernel, by decide +kernel⟩
theorem sc_divisors_of : FnScope ["number", "part"] ["number"] (defScope s_divisors_of) := ⟨rfl, rfl, rfl, by decide +kernel, rfl, by decide +kernel, by decide +kernel⟩
theorem sc_least_period : FnScope ["marks", "period"] ["marks"] (defScope s_least_period) := ⟨rfl, rfl, rfl, by decide +kernel, rfl, by decide +kernel, by decide +kernel⟩
theorem sc_settled_bases : FnScope ["lone", "marks", "found", "kept", "alone", "rests", "at", "is_in", "rest"] ["lone", "marks"] (defScope s_settled_bases) := ⟨rfl, rfl, rfl, by decide +kernel, rfl, by decide +kernel, by decide +kernel⟩
theorem sc_is_mixed : FnScope ["sign", "here", "there"] ["sign", "here", "there"] (defScope s_is_mixed) := ⟨rfl, rfl, rfl, by decide +kernel, rfl, by decide +kernel, by decide +kernel⟩
theorem sc_mixed : FnScope ["sign", "one", "other", "start", "period", "lone", "marks", "rest", "base"] ["sign", "one", "other"] (defScope s_mixed) := ⟨rfl, rfl, rfl, by decide +kernel, rfl, by decide +kernel, by decide +kernel⟩
theorem sc_has_base : FnScope ["bases", "base"] ["bases", "base"] (defScope s_has_base) := ⟨rfl, rfl, rfl, by decide +kernel, rfl, by decide +kernel, by decide +kernel⟩
theorem sc_is_empty : FnScope ["bases"] ["bases"] (defScope s_is_empty) := ⟨rfl, rfl, rfl, by decide +kernel, rfl, by decide +kernel, by decide +kernel⟩
theorem sc_Bases_init : FnScope ["self", "start", "period", "rests", "lone"] ["self", "start", "period", "rests", "lone"] (defScope s_Bases_init) := ⟨rfl, rfl, rfl, by decide +kernel, rfl, by decide +kernel, by decide +kernel⟩
theorem sc_Bases_none : FnScope ["cls"] ["cls"] (defScope s_Bases_none) := ⟨rfl, rfl, rfl, by decide +kernel, rfl, by decide +kernel, by decide +kernel⟩
theorem sc_Bases_every : FnScope ["cls"] ["cls"] (defScope s_Bases_every) := ⟨rfl, rfl, rfl, by decide +kernel, rfl, by decide +kernel, by decide +kernel⟩
theorem sc_Bases_of : FnScope ["cls", "bases", "base", "lone"] ["cls", "bases"] (defScope s_Bases_of) := ⟨rfl, rfl, rfl, by decide +kernel, rfl, by decide +kernel, by decide +kernel⟩
theorem sc_Bases_rest : FnScope ["cls", "period", "rest", "one"] ["cls", "period", "rest"] (defScope s_Bases_rest) := ⟨rfl, rfl, rfl, by decide +kernel, rfl, by decide +kernel, by decide +kernel⟩
theorem sc_Bases_upward : FnScope ["cls", "first"] ["cls", "first"] (defScope s_Bases_upward) := ⟨rfl, rfl, rfl, by decide +kernel, rfl, by decide +kernel, by decide +kernel⟩
theorem sc_Bases_and : FnScope ["self", "other"] ["self", "other"] (defScope s_Bases_and) := ⟨rfl, rfl, rfl, by decide +kernel, rfl, by decide +kernel, by decide +kernel⟩
theorem sc_Bases_or : FnScope ["self", "other"] ["self", "other"] (defScope s_Bases_or) := ⟨rfl, rfl, rfl, by decide +kernel, rfl, by decide +kernel, by decide +kernel⟩
theorem sc_Bases_sub : FnScope ["self", "other"] ["self", "other"] (defScope s_Bases_sub) := ⟨rfl, rfl, rfl, by decide +kernel, rfl, by decide +kernel, by decide +kernel⟩
theorem sc_Bases_xor : FnScope ["self", "other"] ["self", "other"] (defScope s_Bases_xor) := ⟨rfl, rfl, rfl, by decide +kernel, rfl, by decide +kernel, by decide +kernel⟩
theorem sc_Bases_invert : FnScope ["self"] ["self"] (defScope s_Bases_invert) := ⟨rfl, rfl, rfl, by decide +kernel, rfl, by decide +kernel, by decide +kernel⟩
theorem sc_Bases_eq : FnScope ["self", "other"] ["self", "other"] (defScope s_Bases_eq) := ⟨rfl, rfl, rfl, by decide +kernel, rfl, by decide +kernel, by decide +kernel⟩
theorem sc_Bases_str : FnScope ["self", "parts", "told", "rest", "base"] ["self"] (defScope s_Bases_str) := ⟨rfl, rfl, rfl, by decide +kernel, rfl, by decide +kernel, by decide +kernel⟩
theorem sc__law_deal : FnScope ["_law_script", "_law_base", "_law_cell", "_law_cells", "_law_blend"] ["_law_script", "_law_base"] (defScope s__law_deal) := ⟨rfl, rfl, rfl, by decide +kernel, rfl, by decide +kernel, by decide +kernel⟩
theorem sc__law_draw : FnScope ["_law_deal_here", "_law_span_here", "_law_left"] ["_law_deal_here", "_law_span_here"] (defScope s__law_draw) := ⟨rfl, rfl, rfl, by decide +kernel, rfl, by decide +kernel, by decide +kernel⟩
theorem sc__law_pick : FnScope ["_law_deal_here", "_law_some"] ["_law_deal_here", "_law_some"] (defScope s__law_pick) := ⟨rfl, rfl, rfl, by decide +kernel, rfl, by decide +kernel, by decide +kernel⟩
theorem sc__law_atom : FnScope ["_law_deal_here", "_law_form", "_law_k"] ["_law_deal_here"] (defScope s__law_atom) := ⟨rfl, rfl, rfl, by decide +kernel, rfl, by decide +kernel, by decide +kernel⟩
theorem sc__law_model : FnScope ["_law_deal_here", "_law_deep", "_law_form", "_law_one"] ["_law_deal_here", "_law_deep"] (defScope s__law_model) := ⟨rfl, rfl, rfl, by decide +kernel, rfl, by decide +kernel, by decide +kernel⟩
theorem sc__law_in : FnScope ["_law_model_here", "_law_base", "_law_one", "_law_other"] ["_law_model_here", "_law_base"] (defScope s__law_in) := ⟨rfl, rfl, rfl, by decide +kernel, rfl, by decide +kernel, by decide +kernel⟩
theorem sc__law_span : FnScope ["_law_model_here", "_law_top", "_law_base", "_law_one", "_law_other", "_law_period"] ["_law_model_here"] (defScope s__law_span) := ⟨rfl, rfl, rfl, by decide +kernel, rfl, by decide +kernel, by decide +kernel⟩
theorem sc__law_told : FnScope ["_law_model_here", "_law_begin", "_law_period", "_law_marks", "_law_tail", "_law_bottom", "_law_start", "_law_rests", "_law_base", "_law_d"] ["_law_model_here"] (defScope s__law_told) := ⟨rfl, rfl, rfl, by decide +kernel, rfl, by decide +kernel, by decide +kernel⟩
theorem sc__law_set_of : FnScope ["_law_model_here", "_law_one", "_law_other"] ["_law_model_here"] (defScope s__law_set_of) := ⟨rfl, rfl, rfl, by decide +kernel, rfl, by decide +kernel, by decide +kernel⟩
theorem sc__law_is : FnScope ["_law_bases", "_law_model_here"] ["_law_bases", "_law_model_here"] (defScope s__law_is) := ⟨rfl, rfl, rfl, by decide +kernel, rfl, by decide +kernel, by decide +kernel⟩
theorem sc__law_great : FnScope ["_law_deal_here", "_law_way", "_law_one", "_law_some", "_law_k"] ["_law_deal_here"] (defScope s__law_great) := ⟨rfl, rfl, rfl, by decide +kernel, rfl, by decide +kernel, by decide +kernel⟩
theorem sc__law_great_right : FnScope ["_law_deal_here", "_law_one", "_law_other", "_law_a", "_law_b", "_law_sign", "_law_found"] ["_law_deal_here"] (defScope s__law_great_right) := ⟨rfl, rfl, rfl, by decide +kernel, rfl, by decide +kernel, by decide +kernel⟩
theorem sc_law : FnScope ["_law_script", "_law_deal_here", "_law_turn", "_law_model_here", "_law_other", "_law_one", "_law_two", "_law_grown", "_law_less", "_law_kept", "_law_apart", "_law_found", "_law_sign"] ["_law_script"] (defScope s_law) := ⟨rfl, rfl, rfl, by decide +kernel, rfl, by decide +kernel, by decide +kernel⟩

structure Txt (K : PySem.W.Frag) (mg : Str → Option Value) (F : Nat → Addr) (D : Nat → FuncData) (C : Nat → Addr) : Prop where
  f_is_integer : Fun K "is_integer" "is_integer" s_is_integer (F 1) (D 1)
  b_is_integer : Binds K (D 1) ["value"] []
  g_is_integer : mg "is_integer" = some (.ref (F 1))
  f_is_base : Fun K "is_base" "is_base" s_is_base (F 2) (D 2)
  b_is_base : Binds K (D 2) ["value"] []
  g_is_base : mg "is_base" = some (.ref (F 2))
  f_common_of : Fun K "common_of" "common_of" s_common_of (F 3) (D 3)
  b_common_of : Binds K (D 3) ["one", "other"] []
  g_common_of : mg "common_of" = some (.ref (F 3))
  f_divisors_of : Fun K "divisors_of" "divisors_of" s_divisors_of (F 4) (D 4)
  b_divisors_of : Binds K (D 4) ["number"] []
  g_divisors_of : mg "divisors_of" = some (.ref (F 4))
  f_least_period : Fun K "least_period" "least_period" s_least_period (F 5) (D 5)
  b_least_period : Binds K (D 5) ["marks"] []
  g_least_period : mg "least_period" = some (.ref (F 5))
  f_settled_bases : Fun K "settled_bases" "settled_bases" s_settled_bases (F 6) (D 6)
  b_settled_bases : Binds K (D 6) ["lone", "marks"] []
  g_settled_bases : mg "settled_bases" = some (.ref (F 6))
  f_is_mixed : Fun K "is_mixed" "is_mixed" s_is_mixed (F 7) (D 7)
  b_is_mixed : Binds K (D 7) ["sign", "here", "there"] []
  g_is_mixed : mg "is_mixed" = some (.ref (F 7))
  f_mixed : Fun K "mixed" "mixed" s_mixed (F 8) (D 8)
  b_mixed : Binds K (D 8) ["sign", "one", "other"] []
  g_mixed : mg "mixed" = some (.ref (F 8))
  f_has_base : Fun K "has_base" "has_base" s_has_base (F 9) (D 9)
  b_has_base : Binds K (D 9) ["bases", "base"] []
  g_has_base : mg "has_base" = some (.ref (F 9))
  f_Bases_init : Fun K "__init__" "Bases.__init__" s_Bases_init (F 11) (D 11)
  b_Bases_init : Binds K (D 11) ["self", "start", "period", "rests", "lone"] []
  f_Bases_none : Fun K "none" "Bases.none" s_Bases_none (F 12) (D 12)
  b_Bases_none : Binds K (D 12) ["cls"] []
  f_Bases_every : Fun K "every" "Bases.every" s_Bases_every (F 13) (D 13)
  b_Bases_every : Binds K (D 13) ["cls"] []
  f_Bases_of : Fun K "of" "Bases.of" s_Bases_of (F 14) (D 14)
  b_Bases_of : Binds K (D 14) ["cls", "bases"] []
  f_Bases_rest : Fun K "rest" "Bases.rest" s_Bases_rest (F 15) (D 15)
  b_Bases_rest : Binds K (D 15) ["cls", "period", "rest"] []
  f_Bases_upward : Fun K "upward" "Bases.upward" s_Bases_upward (F 16) (D 16)
  b_Bases_upward : Binds K (D 16) ["cls", "first"] []
  f_Bases_and : Fun K "__and__" "Bases.__and__" s_Bases_and (F 17) (D 17)
  b_Bases_and : Binds K (D 17) ["self", "other"] []
  f_Bases_or : Fun K "__or__" "Bases.__or__" s_Bases_or (F 18) (D 18)
  b_Bases_or : Binds K (D 18) ["self", "other"] []
  f_Bases_sub : Fun K "__sub__" "Bases.__sub__" s_Bases_sub (F 19) (D 19)
  b_Bases_sub : Binds K (D 19) ["self", "other"] []
  f_Bases_xor : Fun K "__xor__" "Bases.__xor__" s_Bases_xor (F 20) (D 20)
  b_Bases_xor : Binds K (D 20) ["self", "other"] []
  f_Bases_invert : Fun K "__invert__" "Bases.__invert__" s_Bases_invert (F 21) (D 21)
  b_Bases_invert : Binds K (D 21) ["self"] []
  f_Bases_eq : Fun K "__eq__" "Bases.__eq__" s_Bases_eq (F 22) (D 22)
  b_Bases_eq : Binds K (D 22) ["self", "other"] []
  f_Bases_str : Fun K "__str__" "Bases.__str__" s_Bases_str (F 23) (D 23)
  b_Bases_str : Binds K (D 23) ["self"] []
  f__law_deal : Fun K "_law_deal" "_law_deal" s__law_deal (F 24) (D 24)
  b__law_deal : Binds K (D 24) ["_law_script", "_law_base"] []
  g__law_deal : mg "_law_deal" = some (.ref (F 24))
  f__law_draw : Fun K "_law_draw" "_law_draw" s__law_draw (F 25) (D 25)
  b__law_draw : Binds K (D 25) ["_law_deal_here", "_law_span_here"] []
  g__law_draw : mg "_law_draw" = some (.ref (F 25))
  f__law_pick : Fun K "_law_pick" "_law_pick" s__law_pick (F 26) (D 26)
  b__law_pick : Binds K (D 26) ["_law_deal_here", "_law_some"] []
  g__law_pick : mg "_law_pick" = some (.ref (F 26))
  f__law_atom : Fun K "_law_atom" "_law_atom" s__law_atom (F 27) (D 27)
  b__law_atom : Binds K (D 27) ["_law_deal_here"] []
  g__law_atom : mg "_law_atom" = some (.ref (F 27))
  f__law_model : Fun K "_law_model" "_law_model" s__law_model (F 28) (D 28)
  b__law_model : Binds K (D 28) ["_law_deal_here", "_law_deep"] []
  g__law_model : mg "_law_model" = some (.ref (F 28))
  f__law_in : Fun K "_law_in" "_law_in" s__law_in (F 29) (D 29)
  b__law_in : Binds K (D 29) ["_law_model_here", "_law_base"] []
  g__law_in : mg "_law_in" = some (.ref (F 29))
  f__law_span : Fun K "_law_span" "_law_span" s__law_span (F 30) (D 30)
  b__law_span : Binds K (D 30) ["_law_model_here"] []
  g__law_span : mg "_law_span" = some (.ref (F 30))
  f__law_told : Fun K "_law_told" "_law_told" s__law_told (F 31) (D 31)
  b__law_told : Binds K (D 31) ["_law_model_here"] []
  g__law_told : mg "_law_told" = some (.ref (F 31))
  f__law_set_of : Fun K "_law_set_of" "_law_set_of" s__law_set_of (F 32) (D 32)
  b__law_set_of : Binds K (D 32) ["_law_model_here"] []
  g__law_set_of : mg "_law_set_of" = some (.ref (F 32))
  f__law_is : Fun K "_law_is" "_law_is" s__law_is (F 33) (D 33)
  b__law_is : Binds K (D 33) ["_law_bases", "_law_model_here"] []
  g__law_is : mg "_law_is" = some (.ref (F 33))
  f__law_great : Fun K "_law_great" "_law_great" s__law_great (F 34) (D 34)
  b__law_great : Binds K (D 34) ["_law_deal_here"] []
  g__law_great : mg "_law_great" = some (.ref (F 34))
  f__law_great_right : Fun K "_law_great_right" "_law_great_right" s__law_great_right (F 35) (D 35)
  b__law_great_right : Binds K (D 35) ["_law_deal_here"] []
  g__law_great_right : mg "_law_great_right" = some (.ref (F 35))
  f_law : Fun K "law" "law" s_law (F 36) (D 36)
  n_isinstance : mg "isinstance" = none
  n_int : mg "int" = none
  n_bool : mg "bool" = none
  n_range : mg "range" = none
  n_len : mg "len" = none
  n_list : mg "list" = none
  n_enumerate : mg "enumerate" = none
  n_tuple : mg "tuple" = none
  n_max : mg "max" = none
  n_sorted : mg "sorted" = none
  n_set : mg "set" = none
  n_repr : mg "repr" = none
  n_str : mg "str" = none
  v_LEAST_BASE : ∃ u, mg "LEAST_BASE" = some u ∧ RelV (.int 2) u
  gc_Bases : mg "Bases" = some (.ref (C 2))
  cl_Bases : Cls K (C 2)
  mk_Bases : Mk K (C 2) (F 11)
  sf_Bases : PySem.W.selfFirst K (C 2) = true
  nf_Bases : PySem.W.notFirst K (C 2) (.ref (C 2)) = true
  io_Bases : PySem.W.subIn K (.type "int") (.ref (C 2)) = some false
  ta_Bases : PySem.W.findIn K (.ref (C 2)) "__class__" = some (some (.builtin "object.__class__"))
  tb_Bases : PySem.W.specialIn K (.builtin "object.__class__") "__get__" = some (some (.builtin "getset_descriptor.__get__"))
  tc_Bases : PySem.W.takesIn K (.builtin "object.__class__") = some true
  td_Bases : PySem.W.mroIn K (C 2) (.type "object") = some true
  kt_Bases_int : PySem.W.kitOne K (.ref (C 2)) (.type "int") = some false
  kt_Bases_bool : PySem.W.kitOne K (.ref (C 2)) (.type "bool") = some false
  kn_Bases_NoneType : PySem.W.kitOne K (.type "NoneType") (.ref (C 2)) = some false
  kn_Bases_int : PySem.W.kitOne K (.type "int") (.ref (C 2)) = some false
  kn_Bases_bool : PySem.W.kitOne K (.type "bool") (.ref (C 2)) = some false
  kn_Bases_str : PySem.W.kitOne K (.type "str") (.ref (C 2)) = some false
  kn_Bases_list : PySem.W.kitOne K (.type "list") (.ref (C 2)) = some false
  kn_Bases_tuple : PySem.W.kitOne K (.type "tuple") (.ref (C 2)) = some false
  ko_Bases_Bases : PySem.W.kitOne K (.ref (C 2)) (.ref (C 2)) = some true
  na_Bases_start : NoAttr K (C 2) "start"
  na_Bases_period : NoAttr K (C 2) "period"
  na_Bases_rests : NoAttr K (C 2) "rests"
  na_Bases_lone : NoAttr K (C 2) "lone"
  me_Bases_and : Meth K (C 2) "__and__" (F 17)
  re_Bases_and : RefO K (C 2) "and"
  me_Bases_or : Meth K (C 2) "__or__" (F 18)
  re_Bases_or : RefO K (C 2) "or"
  me_Bases_sub : Meth K (C 2) "__sub__" (F 19)
  re_Bases_sub : RefO K (C 2) "sub"
  me_Bases_xor : Meth K (C 2) "__xor__" (F 20)
  re_Bases_xor : RefO K (C 2) "xor"
  me_Bases_invert : Meth K (C 2) "__invert__" (F 21)
  me_Bases_eq : Meth K (C 2) "__eq__" (F 22)
  me_Bases_str : Meth K (C 2) "__str__" (F 23)
  it_Bases : Eb.InTO K (C 2)
  ni_Bases_or : NoI K (C 2) "or"
  ni_Bases_sub : NoI K (C 2) "sub"
  ni_Bases_and : NoI K (C 2) "and"
  ni_Bases_xor : NoI K (C 2) "xor"
  cm_Bases_none : ∃ mc pm, ClX.CRead K (C 2) mc ∧ ClX.CMet K (C 2) mc "none" pm (F 12)
  cm_Bases_every : ∃ mc pm, ClX.CRead K (C 2) mc ∧ ClX.CMet K (C 2) mc "every" pm (F 13)
  cm_Bases_of : ∃ mc pm, ClX.CRead K (C 2) mc ∧ ClX.CMet K (C 2) mc "of" pm (F 14)
  cm_Bases_rest : ∃ mc pm, ClX.CRead K (C 2) mc ∧ ClX.CMet K (C 2) mc "rest" pm (F 15)
  cm_Bases_upward : ∃ mc pm, ClX.CRead K (C 2) mc ∧ ClX.CMet K (C 2) mc "upward" pm (F 16)
end K31

local macro_rules | `(tactic| walk_at "go") => `(tactic| repeat (first | refine ⟨_, rfl, ?_⟩ | refine ⟨_, _, rfl, rfl, ?_⟩ | refine ⟨rfl, ?_⟩ | refine ⟨_, _, rfl, rfl, ⟨by decide, by decide, by decide⟩, ?_⟩))
local macro_rules | `(tactic| walk_at "w") => `(tactic| conv => whnf)
local macro_rules | `(tactic| walk_at "z") => `(tactic| first | decide | exact Nat.le_of_ble_eq_true rfl | omega | (simp; omega))
local macro_rules | `(tactic| walk_at "i") => `(tactic| repeat (refine ⟨_, rfl, ?_⟩; walk_at "w"))
namespace K31
open PySem PySem.Spec PyProof.Rows L2 Eb
open Per
/-! ### helpers -/
def ni (l : List Nat) : List D := l.map fun n : Nat => D.int (n : Int)
theorem ni_len (l : List Nat) : (ni l).length = l.length := by unfold ni; simp
theorem mapM_flat : ∀ l : List Int, (l.map D.int).mapM D.flat = some (l.map V.int)
  | [] => rfl
  | n :: l => by rw [List.map_cons, List.mapM_cons, mapM_flat l]; rfl
theorem inV_ints (b : Int) : ∀ l : List Int, inV (.int b) (l.map V.int) = decide (b ∈ l)
  | [] => rfl
  | n :: l => by
    have ih := inV_ints b l
    unfold inV at ih ⊢
    rw [List.map_cons, List.any_cons, ih]
    by_cases e : b = n
    · subst e; simp [eqV]
    · have : ¬ n = b := fun z => e z.symm
      simp [eqV, e, this]
theorem in_ints {neg : Bool} {b : Int} {l : List Int} {q : D → Prop} {x : DX → Prop} (h : q (.bl (if neg then !decide (b ∈ l) else decide (b ∈ l)))) : inD neg (.int b) (.tup (l.map D.int)) q x := by
  unfold inD
  exact ⟨.int b, l.map V.int, rfl, mapM_flat l, by rw [inV_ints]; exact h⟩
theorem in_intsL {neg : Bool} {b : Int} {l : List Int} {q : D → Prop} {x : DX → Prop} (h : q (.bl (if neg then !decide (b ∈ l) else decide (b ∈ l)))) : inD neg (.int b) (.lst (l.map D.int)) q x := by
  unfold inD
  exact ⟨.int b, l.map V.int, rfl, mapM_flat l, by rw [inV_ints]; exact h⟩
theorem ni_map (l : List Nat) : ni l = (l.map fun n : Nat => (n : Int)).map D.int := by unfold ni; rw [List.map_map]; rfl
theorem mem_cast (b : Nat) (l : List Nat) : decide ((b : Int) ∈ l.map fun n : Nat => (n : Int)) = decide (b ∈ l) := by
  refine decide_eq_decide.mpr ⟨fun h => ?_, fun h => List.mem_map.mpr ⟨b, h, rfl⟩⟩
  obtain ⟨c, hc, e⟩ := List.mem_map.mp h
  rw [← Int.ofNat_inj.mp e]
  exact hc
theorem in_ni {b : Nat} {l : List Nat} {q : D → Prop} {x : DX → Prop} (h : q (.bl (decide (b ∈ l)))) : inD false (.int (b : Int)) (.tup (ni l)) q x := by
  rw [ni_map]
  refine in_ints ?_
  rw [mem_cast]
  exact h
theorem pys_bools : ∀ l : List Bool, D.pys (l.map D.bl) = some (l.map PyData.bool)
  | [] => by simp [D.pys]
  | n :: ns => by simp [D.pys, D.py, pys_bools ns]
theorem lay_bools : ∀ xs : List Bool, PyData.canLayAll0 (xs.map PyData.bool) = true
  | [] => by simp [PyData.canLayAll0]
  | x :: r => by simp [PyData.canLayAll0, PyData.canLay0, lay_bools r]
theorem depth_bools : ∀ xs : List Bool, PyData.depthAll (xs.map PyData.bool) = 0
  | [] => by simp [PyData.depthAll]
  | x :: r => by simp [PyData.depthAll, PyData.depth, depth_bools r]
theorem eqv_bools : ∀ xs ys : List Bool, PyData.eqvAll (xs.map PyData.bool) (ys.map PyData.bool) = decide (xs = ys)
  | [], [] => by simp [PyData.eqvAll]
  | [], _ :: _ => by simp [PyData.eqvAll]
  | _ :: _, [] => by simp [PyData.eqvAll]
  | x :: r, y :: q => by
    simp only [List.map_cons, PyData.eqvAll, PyData.eqv, eqv_bools r q]
    by_cases h : x = y
    · subst h; simp
    · simp [h]
theorem eqP_bools {q : Bool → Prop} {xs ys : List Bool} (h : q (decide (xs = ys))) : eqP (.lst (xs.map .bl)) (.lst (ys.map .bl)) q := by
  unfold eqP
  have s : ∀ l : List Bool, SeqAt.shaped (.list (l.map PyData.bool)) = true := fun l => by
    unfold SeqAt.shaped
    simp [PyData.canLay0, PyData.depth, lay_bools, depth_bools]
  exact ⟨.list (xs.map .bool), .list (ys.map .bool), by simp only [D.py, pys_bools], by simp only [D.py, pys_bools], s _, s _, by simp only [PyData.eqv, eqv_bools]; exact h⟩
theorem pysB_ne (r : List Bool) : D.pys (r.map D.bl) ≠ none := by rw [pys_bools]; simp
theorem pysB_sh (r : List Bool) : ∀ x, D.pys (r.map D.bl) = some x → SeqAt.shaped (PyData.list x) = true := fun x h => by
  rw [pys_bools] at h
  cases h
  unfold SeqAt.shaped
  simp [PyData.canLay0, PyData.depth, lay_bools, depth_bools]
theorem bls_at {zs : List Bool} {k : Nat} {i : Int} (hi : i = k) (h : k < zs.length) : atI (zs.map D.bl) i = some (.bl (zs.getD k false)) := atI_at hi (by rw [List.getElem?_map, List.getD_eq_getElem?_getD, List.getElem?_eq_getElem h]; rfl)
theorem smN {n : Nat} (h : n ≤ 10 ^ 60) : Sm ((n : Nat) : Int) := sm_of (by omega) (by omega)
/-! ### the program's sets -/
/-- a set in its least form -/
def tl_ (s p : Nat) (rs ls : List Nat) : D := .tup [.int (s : Int), .int (p : Int), .tup (ni rs), .tup (ni ls)]
def bo (s p : Nat) (rs ls : List Nat) : D := .obj 2 [.int (s : Int), .int (p : Int), .tup (ni rs), .tup (ni ls)]
theorem in_mod {b p : Nat} {l : List Nat} {q : D → Prop} {x : DX → Prop} (h : q (.bl (decide (b % p ∈ l)))) : inD false (.int ((b : Int) % (p : Int))) (.tup (ni l)) q x := by
  rw [← Int.natCast_emod]
  exact in_ni h
theorem divisors_ok {n : Nat} {q : D → Prop} {x : DX → Prop} (hn : n ≤ 90000) (h : q (.lst (ni ((List.range (n + 1)).filter fun d => decide (1 ≤ d) && n % d == 0)))) : wp_divisors_of [.int (n : Int)] q x := by
  unfold wp_divisors_of
  refine ⟨rfl, ?_⟩
  walk_at "w"
  refine ⟨⟨by omega, by omega, by omega, by omega⟩, ?_⟩
  have en : ((n : Int) + 1 - 1).toNat = n := by omega
  rw [en, rgD_map]
  refine lc_filter (φ := fun i : Nat => D.int (1 + (i : Int))) (fun i => n % (i + 1) == 0) (fun i => .int ((i + 1 : Nat) : Int)) (List.range n) [] (fun i hi kk no h1 h2 => ?_) (by simp; omega) ?_
  · have e1 : (1 + (i : Int)) = ((i + 1 : Nat) : Int) := by omega
    rw [e1]
    walk_at "w"
    refine ⟨by omega, ?_⟩
    walk_at "w"
    have e2 : (((n : Int) % ((i + 1 : Nat) : Int)) == 0) = (n % (i + 1) == 0) := by
      rw [← Int.natCast_emod]
      rw [Bool.eq_iff_iff]
      simp only [beq_iff_eq]
      omega
    rw [e2]
    refine iteB_by (fun c => ?_) (fun c => ?_)
    · exact h1 c
    · exact h2 c
  · have e : (List.range (n + 1)).filter (fun d => decide (1 ≤ d) && n % d == 0) = ((List.range n).filter fun i => n % (i + 1) == 0).map (· + 1) := by
      rw [List.range_succ_eq_map, List.filter_cons_of_neg (by simp), List.filter_map]
      congr 1
    rw [e] at h
    unfold ni at h
    rw [List.map_map] at h
    rw [List.nil_append]
    exact h
theorem take_map_bl (ms : List Bool) (d : Nat) : cutL (ms.map D.bl) none (some (d : Int)) = (ms.take d).map .bl := by rw [cut_take, ← List.map_take]
theorem rep_map_bl (k : Nat) (xs : List Bool) : (List.replicate k (xs.map D.bl)).flatten = ((List.replicate k xs).flatten).map D.bl := by
  induction k with
  | zero => rfl
  | succ k ih => rw [List.replicate_succ, List.replicate_succ, List.flatten_cons, List.flatten_cons, ih, List.map_append]
/-- by rests alone -/
abbrev mk_ (ms : List Bool) : Nat → Bool := fun b => ms.getD (b % ms.length) false
theorem least_period_ok {ms : List Bool} {q : D → Prop} {x : DX → Prop} (hn : 1 ≤ ms.length) (hl : ms.length ≤ 90000) (h : ∀ d, 1 ≤ d → d ∣ ms.length → EvP (mk_ ms) 0 d → (∀ e, 1 ≤ e → e < d → e ∣ ms.length → ¬ EvP (mk_ ms) 0 e) → q (.int ((d : Nat) : Int))) : wp_least_period [.lst (ms.map .bl)] q x := by
  unfold wp_least_period
  refine ⟨rfl, ?_⟩
  walk_at "w"
  rw [List.length_map]
  refine divisors_ok hl ?_
  walk_at "w"
  unfold ni
  generalize hds : (List.range (ms.length + 1)).filter (fun d => decide (1 ≤ d) && ms.length % d == 0) = ds
  have dmem : ∀ d, d ∈ ds ↔ 1 ≤ d ∧ d ∣ ms.length := fun d => by
    rw [← hds]
    simp only [List.mem_filter, List.mem_range, Bool.and_eq_true, decide_eq_true_eq, beq_iff_eq]
    constructor
    · rintro ⟨_, h1, h2⟩
      exact ⟨h1, Nat.dvd_of_mod_eq_zero h2⟩
    · rintro ⟨h1, h2⟩
      exact ⟨by have := Nat.le_of_dvd hn h2; omega, h1, Nat.mod_eq_zero_of_dvd h2⟩
  have dasc : ds.Pairwise (· < ·) := by rw [← hds]; exact asc_filter _ _
  refine for_map (φ := fun n : Nat => D.int (n : Int)) (fun pre env => (∃ v, env = [.va (.lst (ms.map .bl)), v]) ∧ ∀ e ∈ pre, ¬ EvP (mk_ ms) 0 e) ds ⟨⟨_, rfl⟩, fun e he => by cases he⟩ ?_ ?_
  · rintro pre d suf env e0 hd ⟨⟨v, rfl⟩, hno⟩ hrt _ _ _ hN
    obtain ⟨d1, dd⟩ := (dmem d).mp (by rw [hd]; simp)
    have dle := Nat.le_of_dvd hn dd
    have less : ∀ e, 1 ≤ e → e < d → e ∣ ms.length → e ∈ pre := fun e e1 el ed => by
      have m := (dmem e).mpr ⟨e1, ed⟩
      rw [hd] at m dasc
      rcases List.mem_append.mp m with z | z
      · exact z
      · have p2 := (List.pairwise_append.mp dasc).2.1
        rw [List.pairwise_cons] at p2
        rcases List.mem_cons.mp z with y | y
        · omega
        · have := p2.1 e y; omega
    have ed : ((ms.length : Int) / (d : Int)) = ((ms.length / d : Nat) : Int) := by rw [Int.natCast_ediv]
    have tl : (ms.take d).length = d := by rw [List.length_take]; omega
    have ml : ms.length / d * d = ms.length := Nat.div_mul_cancel dd
    have ml2 : d * (ms.length / d) = ms.length := by rw [Nat.mul_comm]; exact ml
    have ml3 : ms.length / d ≤ ms.length := Nat.div_le_self ..
    have rpi := rep_iff d1 dd hn
    generalize ms.length / d = qd at *
    walk_at "w"
    rw [take_map_bl]
    walk_at "w"
    rw [List.length_map]
    refine ⟨divW (by omega) (smN (by omega)), ?_⟩
    walk_at "w"
    rw [ed]
    refine ⟨⟨by omega, by omega, by rw [List.length_map, tl, Int.toNat_natCast, ml2]; omega⟩, ?_⟩
    rw [Int.toNat_natCast, rep_map_bl]
    walk_at "w"
    refine eqP_bools ?_
    walk_at "w"
    refine iteB_by (fun c => ?_) (fun c => ?_)
    · have c1 := rpi.mp (of_decide_eq_true c)
      show e0.rt _ _
      rw [hrt]
      exact h d d1 dd c1 fun e e1 el ed => hno e (less e e1 el ed)
    · have c1 : ¬ EvP (mk_ ms) 0 d := fun z => of_decide_eq_false c (rpi.mpr z)
      refine hN _ ⟨⟨_, rfl⟩, fun e he => ?_⟩
      rcases List.mem_append.mp he with z | z
      · exact hno e z
      · rw [List.mem_singleton.mp z]
        exact c1
  · rintro env ⟨⟨v, rfl⟩, hno⟩
    refine (hno ms.length ((dmem _).mpr ⟨hn, Nat.dvd_refl _⟩) fun b _ => ?_).elim
    show ms.getD ((b + ms.length) % ms.length) false = _
    rw [Nat.add_mod_right]
theorem init_bo {a b c d : D} {q : List D → Prop} {x : DX → Prop} (h : q [a, b, c, d]) : wp_Bases_init [a, b, c, d] q x := by
  unfold wp_Bases_init
  refine ⟨rfl, ?_⟩
  walk_at "w"
  refine ⟨rfl, rfl, ?_⟩
  walk_at "w"
  refine ⟨rfl, rfl, ?_⟩
  walk_at "w"
  refine ⟨rfl, rfl, ?_⟩
  walk_at "w"
  refine ⟨rfl, rfl, ?_⟩
  walk_at "w"
  exact ⟨rfl, rfl, h⟩
theorem en_bl (xs : List Bool) : enD (xs.map D.bl) = (List.range xs.length).map fun i : Nat => D.tup [.int (i : Int), .bl (xs.getD i false)] := by
  refine List.ext_getElem? fun i => ?_
  by_cases c : i < xs.length
  · have e : (xs.map D.bl)[i]? = some (.bl (xs.getD i false)) := by rw [List.getElem?_map, List.getD_eq_getElem?_getD, List.getElem?_eq_getElem c]; rfl
    rw [enD_get e, List.getElem?_map, List.getElem?_range c]
    rfl
  · rw [List.getElem?_eq_none (by rw [enD_len, List.length_map]; omega), List.getElem?_eq_none (by simp; omega)]
theorem take_last {α : Type} {xs : List α} {k : Nat} {z : α} (h0 : 0 < k) (h : xs[k - 1]? = some z) : xs.take k = xs.take (k - 1) ++ [z] := by
  have e : k = k - 1 + 1 := by omega
  conv => lhs; rw [e]
  rw [List.take_add_one, h]
  rfl
theorem getD_take {xs : List Bool} {d i : Nat} (h : i < d) : (xs.take d).getD i false = xs.getD i false := by
  rw [List.getD_eq_getElem?_getD, List.getD_eq_getElem?_getD, List.getElem?_take_of_lt h]
theorem settled_ok {lone ms : List Bool} {q : D → Prop} {x : DX → Prop} (hn : 1 ≤ ms.length) (hl : ms.length ≤ 90000) (hl2 : lone.length ≤ 90000) (h : ∀ s p rs ls, Can (fset lone ms) s p rs ls → q (bo s p rs ls)) : wp_settled_bases [.lst (lone.map .bl), .lst (ms.map .bl)] q x := by
  unfold wp_settled_bases
  refine ⟨rfl, ?_⟩
  walk_at "w"
  refine least_period_ok hn hl fun d d1 dd dp dm => ?_
  have dle := Nat.le_of_dvd hn dd
  have tl : (ms.take d).length = d := by rw [List.length_take]; omega
  walk_at "w"
  rw [take_map_bl]
  walk_at "w"
  refine ⟨by walk_at "z", ?_⟩
  walk_at "w"
  refine ⟨fun m env => ∃ k : Nat, k ≤ lone.length ∧ m = k ∧ env = [.va (.lst (lone.map .bl)), .va (.lst (ms.map .bl)), .va (.lst ((ms.take d).map .bl)), .ow ((lone.take k).map .bl), .un, .un, .un, .un, .un] ∧ ∀ j, k ≤ j → j < lone.length → lone.getD j false = ms.getD ((2 + j) % d) false, ⟨_, lone.length, Nat.le_refl _, rfl, by rw [List.take_length]; rfl, fun j a b => by omega⟩, ?_⟩
  rintro m env ⟨k, hk, rfl, rfl, ht⟩
  have kl : (lone.take m).length = m := by rw [List.length_take]; omega
  refine test_by (decide (0 < m ∧ lone.getD (m - 1) false = ms.getD ((2 + (m - 1)) % d) false)) (fun q' hq => ?_) ?_
  · walk_at "w"
    refine ⟨pysB_ne _, pysB_sh _, ?_⟩
    by_cases m0 : 0 < m
    · have hat : lone[m - 1]? = some (lone.getD (m - 1) false) := by rw [List.getD_eq_getElem?_getD, List.getElem?_eq_getElem (by omega)]; rfl
      have e1 : (if true = true then !((lone.take m).map D.bl).isEmpty else ((lone.take m).map D.bl).isEmpty) = true := by
        rw [take_last m0 hat]
        simp
      rw [e1]
      walk_at "w"
      refine ⟨.bl (lone.getD (m - 1) false), by rw [take_last m0 hat, List.map_append]; exact atI_end, ?_⟩
      walk_at "w"
      rw [List.length_map, List.length_map, kl, tl]
      refine ⟨by omega, ?_⟩
      walk_at "w"
      have md : (2 + (m - 1)) % d < d := Nat.mod_lt _ d1
      refine ⟨_, bls_at (k := (2 + (m - 1)) % d) (by rw [show (2 : Int) + (m : Int) - 1 = ((2 + (m - 1) : Nat) : Int) by omega, Int.natCast_emod]) (by rw [tl]; exact md), ?_⟩
      rw [getD_take md]
      walk_at "w"
      have e2 : (lone.getD (m - 1) false == ms.getD ((2 + (m - 1)) % d) false) = decide (0 < m ∧ lone.getD (m - 1) false = ms.getD ((2 + (m - 1)) % d) false) := by
        rw [Bool.eq_iff_iff]
        simp only [beq_iff_eq, decide_eq_true_eq]
        exact ⟨fun z => ⟨m0, z⟩, fun z => z.2⟩
      rw [e2]
      exact hq
    · have m1 : m = 0 := by omega
      subst m1
      walk_at "w"
      exact hq
  refine iteB_by (fun c => ?_) (fun c => ?_)
  · obtain ⟨m0, c1⟩ := of_decide_eq_true c
    have hat : lone[m - 1]? = some (lone.getD (m - 1) false) := by rw [List.getD_eq_getElem?_getD, List.getElem?_eq_getElem (by omega)]; rfl
    walk_at "w"
    refine ⟨by rw [take_last m0 hat]; simp, ?_⟩
    walk_at "w"
    refine ⟨m - 1, by omega, m - 1, by omega, rfl, ?_, fun j a b => ?_⟩
    · rw [take_last m0 hat, List.map_append, List.map_singleton]
      show [_, _, _, Sl.ow (_ ++ [_]).dropLast, _, _, _, _, _] = _
      rw [List.dropLast_concat]
    · by_cases e : j = m - 1
      · rw [e]; exact c1
      · exact ht j (by omega) b
  have hkm : m = 0 ∨ lone.getD (m - 1) false ≠ ms.getD ((2 + (m - 1)) % d) false := by
    have := of_decide_eq_false c
    by_cases m0 : m = 0
    · exact .inl m0
    · exact .inr fun z => this ⟨by omega, z⟩
  have can := settle hn d1 dd dp dm hk ht hkm
  clear c
  walk_at "w"
  rw [en_bl, kl]
  refine lc_filter (φ := fun i : Nat => D.tup [.int (i : Int), .bl ((lone.take m).getD i false)]) (fun i => (lone.take m).getD i false) (fun i => .int ((2 + i : Nat) : Int)) (List.range m) [] (fun i hi kk no h1 h2 => ?_) (by simp; omega) ?_
  · walk_at "w"
    refine iteB_by (fun c => ?_) (fun c => ?_)
    · have := h1 c
      exact this
    · exact h2 c
  walk_at "w"
  rw [en_bl, tl]
  refine lc_filter (φ := fun i : Nat => D.tup [.int (i : Int), .bl ((ms.take d).getD i false)]) (fun i => (ms.take d).getD i false) (fun i => .int (i : Int)) (List.range d) [] (fun i hi kk no h1 h2 => ?_) (by simp; omega) ?_
  · walk_at "w"
    refine iteB_by (fun c => ?_) (fun c => ?_)
    · exact h1 c
    · exact h2 c
  walk_at "w"
  rw [List.length_map, List.length_map, kl, tl, List.nil_append, List.nil_append]
  refine init_bo ?_
  have f1 : (List.range d).filter (fun i => (ms.take d).getD i false) = (List.range d).filter fun r => ms.getD r false := List.filter_congr fun i hi => getD_take (List.mem_range.mp hi)
  have f2 : (List.range m).filter (fun i => (lone.take m).getD i false) = (List.range m).filter fun r => lone.getD r false := List.filter_congr fun i hi => getD_take (List.mem_range.mp hi)
  rw [f1, f2]
  have := h _ _ _ _ can
  unfold bo ni at this
  rw [List.map_map] at this
  exact this
theorem has_base_ok {f : Nat → Bool} {s p : Nat} {rs ls : List Nat} {b : Nat} {q : D → Prop} {x : DX → Prop} (hc : Can f s p rs ls) (hb : 2 ≤ b) (h : q (.bl (f b))) : wp_has_base [bo s p rs ls, .int (b : Int)] q x := by
  unfold wp_has_base
  refine ⟨rfl, ?_⟩
  have p1 := hc.p1
  have e := hc.has hb
  walk_at "w"
  refine iteB_by (fun c => ?_) (fun c => ?_)
  · have c1 : b < s := by
      have : (b : Int) < (s : Int) := of_decide_eq_true c
      omega
    rw [if_pos c1] at e
    rw [e] at h
    walk_at "w"
    exact in_ni h
  · have c1 : ¬ b < s := by
      have : ¬ (b : Int) < (s : Int) := of_decide_eq_false c
      omega
    rw [if_neg c1] at e
    rw [e] at h
    walk_at "w"
    refine ⟨by omega, ?_⟩
    walk_at "w"
    exact in_mod h
theorem common_of_ok {a b : Nat} {q : D → Prop} {x : DX → Prop} (h : q (.int ((Nat.gcd a b : Nat) : Int))) : wp_common_of [.int (a : Int), .int (b : Int)] q x := by
  unfold wp_common_of
  refine ⟨rfl, ?_⟩
  walk_at "w"
  refine ⟨fun m env => ∃ (u v : Nat), m = v ∧ env = [.va (.int u), .va (.int v)] ∧ Nat.gcd u v = Nat.gcd a b, ⟨_, a, b, rfl, rfl, rfl⟩, ?_⟩
  rintro m env ⟨u, v, rfl, rfl, hg⟩
  walk_at "w"
  refine iteB_by (fun c => ?_) (fun c => ?_)
  · have hm : 0 < m := by
      have : (m : Int) > 0 := of_decide_eq_true c
      omega
    walk_at "w"
    refine ⟨by omega, ?_⟩
    walk_at "w"
    exact ⟨u % m, Nat.mod_lt u hm, m, u % m, rfl, by rw [Int.natCast_emod]; rfl, by rw [Nat.gcd_comm, ← Nat.gcd_rec, Nat.gcd_comm]; exact hg⟩
  · have hm : m = 0 := by
      have : ¬ (m : Int) > 0 := of_decide_eq_false c
      omega
    subst hm
    walk_at "w"
    rw [Nat.gcd_zero_right] at hg
    rw [hg]
    exact h
/-- the four signs -/
inductive Sgn where
  | an | or | sub | xor
def Sgn.str : Sgn → Str
  | .an => "&" | .or => "|" | .sub => "-" | .xor => "^"
def Sgn.on : Sgn → Bool → Bool → Bool
  | .an, a, b => a && b
  | .or, a, b => a || b
  | .sub, a, b => a && !b
  | .xor, a, b => a != b
theorem is_mixed_ok {g : Sgn} {a b : Bool} {q : D → Prop} {x : DX → Prop} (h : q (.bl (g.on a b))) : wp_is_mixed [.str g.str, .bl a, .bl b] q x := by
  unfold wp_is_mixed
  refine ⟨rfl, ?_⟩
  cases g <;> cases a <;> cases b <;> (walk_at "w"; exact h)
theorem fset_mixed {g : Sgn} {f1 f2 : Nat → Bool} {s1 s2 p1 p2 s p : Nat} (h1 : EvP f1 s1 p1) (h2 : EvP f2 s2 p2) (hs : s = max s1 s2) (d1 : p1 ∣ p) (d2 : p2 ∣ p) (hp : 1 ≤ p) {m1 m2 : Nat → Bool} (e1 : ∀ b, s1 ≤ b → f1 b = m1 (b % p1)) (e2 : ∀ b, s2 ≤ b → f2 b = m2 (b % p2)) (two : 2 ≤ s) (b : Nat) (hb : 2 ≤ b) :
    fset ((List.range (s - 2)).map fun i => g.on (f1 (2 + i)) (f2 (2 + i))) ((List.range p).map fun r => g.on (m1 (r % p1)) (m2 (r % p2))) b = g.on (f1 b) (f2 b) := by
  unfold fset
  rw [List.length_map, List.length_map, List.length_range, List.length_range]
  split
  · rename_i c
    rw [List.getD_eq_getElem?_getD, List.getElem?_map, List.getElem?_range (by omega)]
    show g.on (f1 (2 + (b - 2))) (f2 (2 + (b - 2))) = _
    rw [show 2 + (b - 2) = b by omega]
  · rename_i c
    have lt : b % p < p := Nat.mod_lt b hp
    rw [List.getD_eq_getElem?_getD, List.getElem?_map, List.getElem?_range lt]
    show g.on (m1 (b % p % p1)) (m2 (b % p % p2)) = _
    rw [Nat.mod_mod_of_dvd _ d1, Nat.mod_mod_of_dvd _ d2, ← e1 b (by omega), ← e2 b (by omega)]
theorem mixed_ok {g : Sgn} {f1 f2 : Nat → Bool} {s1 s2 p1 p2 : Nat} {r1 r2 l1 l2 : List Nat} {q : D → Prop} {x : DX → Prop} (h1 : Can f1 s1 p1 r1 l1) (h2 : Can f2 s2 p2 r2 l2) (hs1 : s1 ≤ 80000) (hs2 : s2 ≤ 80000) (hl : Nat.lcm p1 p2 ≤ 80000)
    (h : ∀ s p rs ls, Can (fun b => g.on (f1 b) (f2 b)) s p rs ls → q (bo s p rs ls)) : wp_mixed [.str g.str, bo s1 p1 r1 l1, bo s2 p2 r2 l2] q x := by
  have a1 := h1.p1
  have a2 := h2.p1
  have b1 := h1.s2
  have b2 := h2.s2
  have lp : 1 ≤ Nat.lcm p1 p2 := Nat.lcm_pos a1 a2
  have d1 : p1 ∣ Nat.lcm p1 p2 := Nat.dvd_lcm_left ..
  have d2 : p2 ∣ Nat.lcm p1 p2 := Nat.dvd_lcm_right ..
  have q1 : p1 ≤ 80000 := Nat.le_trans (Nat.le_of_dvd lp d1) hl
  have q2 : p2 ≤ 80000 := Nat.le_trans (Nat.le_of_dvd lp d2) hl
  have gp : 0 < Nat.gcd p1 p2 := Nat.gcd_pos_of_pos_left _ a1
  have gle : Nat.gcd p1 p2 ≤ p1 := Nat.gcd_le_left _ a1
  unfold wp_mixed
  refine ⟨rfl, ?_⟩
  refine seq2 (fun env => env = [.va (.str g.str), .va (bo s1 p1 r1 l1), .va (bo s2 p2 r2 l2), .va (.int ((max s1 s2 : Nat) : Int)), .va (.int ((Nat.lcm p1 p2 : Nat) : Int)), .un, .un, .un, .un]) (fun e' _ _ _ _ hnx => ?_) ?_
  · walk_at "w"
    refine ⟨mulW (smN (by omega)) (smN (by omega)), ?_⟩
    walk_at "w"
    refine common_of_ok ?_
    walk_at "w"
    refine ⟨divW (by omega) (smN (by omega)), ?_⟩
    refine hnx _ ?_
    have em : (if (s2 : Int) > (s1 : Int) then (s2 : Int) else (s1 : Int)) = ((max s1 s2 : Nat) : Int) := by split <;> omega
    have el : (p1 : Int) * (p2 : Int) / ((Nat.gcd p1 p2 : Nat) : Int) = ((Nat.lcm p1 p2 : Nat) : Int) := by
      unfold Nat.lcm
      rw [Int.natCast_ediv, Int.natCast_mul]
    rw [← em, ← el]
    rfl
  rintro _ rfl
  have smx : max s1 s2 ≤ 80000 := by omega
  have s2x : 2 ≤ max s1 s2 := by omega
  have ev1 : ∀ b, s1 ≤ b → f1 b = decide (b % p1 ∈ r1) := fun b hb => by have := h1.has (b := b) (by omega); rwa [if_neg (by omega)] at this
  have ev2 : ∀ b, s2 ≤ b → f2 b = decide (b % p2 ∈ r2) := fun b hb => by have := h2.has (b := b) (by omega); rwa [if_neg (by omega)] at this
  have fin := fun b hb => fset_mixed (g := g) h1.per h2.per (s := max s1 s2) rfl d1 d2 lp (m1 := fun r => decide (r ∈ r1)) (m2 := fun r => decide (r ∈ r2)) ev1 ev2 s2x b hb
  generalize max s1 s2 = s at *
  generalize Nat.lcm p1 p2 = p at *
  refine seq_by (fun env => env = [.va (.str g.str), .va (bo s1 p1 r1 l1), .va (bo s2 p2 r2 l2), .va (.int (s : Int)), .va (.int (p : Int)), .va (.lst (((List.range (s - 2)).map fun i => g.on (f1 (2 + i)) (f2 (2 + i))).map .bl)), .un, .un, .un]) (fun e' _ _ _ _ hnx => ?_) ?_
  · walk_at "w"
    refine ⟨⟨by omega, by omega, by omega, by omega⟩, ?_⟩
    rw [show ((s : Int) - 2).toNat = s - 2 by omega, rgD_map]
    refine lc_map (φ := fun i : Nat => D.int (2 + (i : Int))) (fun i => .bl (g.on (f1 (2 + i)) (f2 (2 + i)))) (List.range (s - 2)) (fun i hi kk no hk => ?_) (by simp; omega) ?_
    · rw [show (2 : Int) + (i : Int) = ((2 + i : Nat) : Int) by omega]
      walk_at "w"
      refine has_base_ok h1 (by omega) ?_
      walk_at "w"
      refine has_base_ok h2 (by omega) ?_
      walk_at "w"
      exact is_mixed_ok hk
    · refine hnx _ ?_
      rw [List.map_map]
      rfl
  rintro _ rfl
  refine seq2 (fun env => ∃ v7 : Sl, env = [.va (.str g.str), .va (bo s1 p1 r1 l1), .va (bo s2 p2 r2 l2), .va (.int (s : Int)), .va (.int (p : Int)), .va (.lst (((List.range (s - 2)).map fun i => g.on (f1 (2 + i)) (f2 (2 + i))).map .bl)), .ow (((List.range p).map fun r => g.on (decide (r % p1 ∈ r1)) (decide (r % p2 ∈ r2))).map .bl), v7, .un]) (fun e' _ _ _ _ hnx => ?_) ?_
  · walk_at "w"
    refine ⟨by walk_at "z", ?_⟩
    walk_at "w"
    refine ⟨by walk_at "z", ?_⟩
    walk_at "w"
    refine ⟨⟨by omega, by omega⟩, ?_⟩
    rw [Int.toNat_natCast]
    refine for_range (fun k env => ∃ v7 : Sl, env = [.va (.str g.str), .va (bo s1 p1 r1 l1), .va (bo s2 p2 r2 l2), .va (.int (s : Int)), .va (.int (p : Int)), .va (.lst (((List.range (s - 2)).map fun i => g.on (f1 (2 + i)) (f2 (2 + i))).map .bl)), .ow (((List.range k).map fun r => g.on (decide (r % p1 ∈ r1)) (decide (r % p2 ∈ r2))).map .bl), v7, .un]) ⟨_, rfl⟩ ?_ (fun env z => hnx env z)
    rintro k env e1 hk ⟨v7, rfl⟩ _ _ _ _ hN
    rw [Int.zero_add]
    walk_at "w"
    refine ⟨by omega, ?_⟩
    walk_at "w"
    refine in_mod ?_
    walk_at "w"
    refine ⟨by omega, ?_⟩
    walk_at "w"
    refine in_mod ?_
    walk_at "w"
    refine is_mixed_ok ?_
    walk_at "w"
    refine ⟨by simp; omega, ?_⟩
    rw [List.range_succ, List.map_append, List.map_append] at hN
    exact hN _ ⟨_, rfl⟩
  rintro _ ⟨v7, rfl⟩
  walk_at "w"
  exact settled_ok (by simpa using lp) (by simpa using by omega) (by simp; omega) fun s' p' rs ls hc => h _ _ _ _ (hc.congr fin)
section
variable {q : D → Prop} {x : DX → Prop} {c0 : D}
theorem every_ok (h : q (bo 2 1 [0] [])) : wp_Bases_every [c0] q x := by
  unfold wp_Bases_every
  refine ⟨rfl, ?_⟩
  walk_at "w"
  refine ⟨by walk_at "z", ?_⟩
  walk_at "w"
  refine ⟨by walk_at "z", ?_⟩
  walk_at "w"
  refine settled_ok (lone := []) (ms := [true]) (by decide) (by decide) (by decide) fun s p rs ls hc => ?_
  have c2 : Can (fset [] [true]) 2 1 [0] [] := by
    have f : ∀ b, fset [] [true] b = true ∨ b < 2 := fun b => by
      by_cases c : b < 2
      · exact .inr c
      · refine .inl ?_
        unfold fset
        rw [if_neg (by simpa using c)]
        have : b % [true].length = 0 := Nat.mod_one b
        rw [this]
        rfl
    refine ⟨by decide, by decide, fun b hb => ?_, fun s' p' hp _ => hp, .inl rfl, by decide, by decide⟩
    rcases f b with z | z
    · rcases f (b + 1) with y | y
      · rw [z, y]
      · omega
    · omega
  obtain ⟨rfl, rfl, rfl, rfl⟩ := hc.uniq c2
  exact h
theorem none_ok (h : q (bo 2 1 [] [])) : wp_Bases_none [c0] q x := by
  unfold wp_Bases_none
  refine ⟨rfl, ?_⟩
  walk_at "w"
  refine ⟨by walk_at "z", ?_⟩
  walk_at "w"
  refine ⟨by walk_at "z", ?_⟩
  walk_at "w"
  refine settled_ok (lone := []) (ms := [false]) (by decide) (by decide) (by decide) fun s p rs ls hc => ?_
  have c2 : Can (fset [] [false]) 2 1 [] [] := by
    have f : ∀ b, fset [] [false] b = false := fun b => by
      unfold fset
      split
      · rfl
      · have : b % [false].length = 0 := Nat.mod_one b
        rw [this]
        rfl
    exact ⟨by decide, by decide, fun b hb => by rw [f, f], fun s' p' hp _ => hp, .inl rfl, by decide, by decide⟩
  obtain ⟨rfl, rfl, rfl, rfl⟩ := hc.uniq c2
  exact h
end

end K31

local macro_rules | `(tactic| walk_at "go") => `(tactic| repeat (first | refine ⟨_, rfl, ?_⟩ | refine ⟨_, _, rfl, rfl, ?_⟩ | refine ⟨rfl, ?_⟩ | refine ⟨_, _, rfl, rfl, ⟨by decide, by decide, by decide⟩, ?_⟩))
local macro_rules | `(tactic| walk_at "w") => `(tactic| conv => whnf)
local macro_rules | `(tactic| walk_at "z") => `(tactic| first | decide | exact Nat.le_of_ble_eq_true rfl | omega | (simp; omega))
local macro_rules | `(tactic| walk_at "i") => `(tactic| repeat (refine ⟨_, rfl, ?_⟩; walk_at "w"))
namespace K31
open PySem PySem.Spec PyProof.Rows L2 Eb
open Per
/-- how the law tells a set -/
inductive BM where
  | of (l : List Int) | rest (p r : Int) | up (n : Int) | none | every | not (m : BM) | bin (g : Sgn) (a b : BM)
def BM.toD : BM → D
  | .of l => .tup [.str "of", .tup (l.map .int)]
  | .rest p r => .tup [.str "rest", .int p, .int r]
  | .up n => .tup [.str "upward", .int n]
  | .none => .tup [.str "none"]
  | .every => .tup [.str "every"]
  | .not m => .tup [.str "~", m.toD]
  | .bin g a b => .tup [.str g.str, a.toD, b.toD]
def BM.mem : BM → Int → Bool
  | .of l, b => decide (b ∈ l)
  | .rest p r, b => (b - r) % p == 0
  | .up n, b => decide (b ≥ n)
  | .none, _ => false
  | .every, _ => true
  | .not m, b => !m.mem b
  | .bin g x y, b => g.on (x.mem b) (y.mem b)
def BM.fN (m : BM) : Nat → Bool := fun b => m.mem (b : Int)
def BM.depth : BM → Nat
  | .not m => m.depth + 1
  | .bin _ a b => max a.depth b.depth + 1
  | _ => 0
/-- periods divide N, all is told below S -/
def BM.Wf (N S : Nat) : BM → Prop
  | .of l => l.length ≤ 50 ∧ ∀ b ∈ l, 2 ≤ b ∧ b < S
  | .rest p _ => 1 ≤ p ∧ p ∣ (N : Int)
  | .up n => n ≤ S
  | .not m => m.Wf N S
  | .bin _ a b => a.Wf N S ∧ b.Wf N S
  | _ => True
theorem wf_ev {N S : Nat} : ∀ (m : BM), m.Wf N S → EvP m.fN S N
  | .of l, h => fun b hb => by
    have n : ∀ c : Nat, S ≤ c → decide ((c : Int) ∈ l) = false := fun c hc => decide_eq_false fun z => by have := h.2 _ z; omega
    show decide (((b + N : Nat) : Int) ∈ l) = decide ((b : Int) ∈ l)
    rw [n _ (by omega), n _ hb]
  | .rest p r, h => fun b _ => by
    obtain ⟨k, hk⟩ := h.2
    show ((((b + N : Nat) : Int) - r) % p == 0) = (((b : Int) - r) % p == 0)
    rw [show ((b + N : Nat) : Int) - r = ((b : Int) - r) + p * k by rw [← hk]; omega, Int.add_mul_emod_self_left]
  | .up n, h => fun b hb => by
    have h : n ≤ (S : Int) := h
    show decide (((b + N : Nat) : Int) ≥ n) = decide ((b : Int) ≥ n)
    rw [decide_eq_true (by omega), decide_eq_true (by omega)]
  | .none, _ => fun _ _ => rfl
  | .every, _ => fun _ _ => rfl
  | .not m, h => fun b hb => by
    have := wf_ev m h b hb
    show (!m.fN (b + N)) = (!m.fN b)
    rw [this]
  | .bin g x y, h => fun b hb => by
    have h1 := wf_ev x h.1 b hb
    have h2 := wf_ev y h.2 b hb
    show g.on (x.fN (b + N)) (y.fN (b + N)) = g.on (x.fN b) (y.fN b)
    rw [h1, h2]
theorem in_two {s : Str} {q : D → Prop} {x : DX → Prop} (h : q (.bl (inV (.str s) [.str "none", .str "every"]))) : inD false (.str s) (.tup [.str "none", .str "every"]) q x := by
  unfold inD
  exact ⟨.str s, [.str "none", .str "every"], rfl, rfl, h⟩
theorem lin_ok {N S : Nat} : ∀ (n : Nat) (m : BM) (b : Int) (q : D → Prop) (x : DX → Prop), m.depth < n → m.Wf N S → q (.bl (m.mem b)) → wp__law_in n [m.toD, .int b] q x
  | 0, m, b, q, x, h, _, _ => by omega
  | n + 1, m, b, q, x, hd, hw, h => by
    rw [wps__law_in]
    refine ⟨rfl, ?_⟩
    cases m with
    | of l =>
      walk_at "w"
      walk_at "i"
      exact in_ints h
    | rest p r =>
      walk_at "w"
      walk_at "i"
      exact ⟨by have := hw.1; show 0 < p; omega, h⟩
    | up k =>
      walk_at "w"
      walk_at "i"
      refine ⟨by walk_at "z", ?_⟩
      walk_at "w"
      refine in_two ?_
      walk_at "w"
      walk_at "i"
      exact h
    | none =>
      walk_at "w"
      walk_at "i"
      refine ⟨by walk_at "z", ?_⟩
      walk_at "w"
      refine in_two ?_
      walk_at "w"
      walk_at "i"
      exact h
    | every =>
      walk_at "w"
      walk_at "i"
      refine ⟨by walk_at "z", ?_⟩
      walk_at "w"
      refine in_two ?_
      walk_at "w"
      walk_at "i"
      exact h
    | not m =>
      have hd' : m.depth < n := by simp only [BM.depth] at hd; omega
      walk_at "w"
      walk_at "i"
      refine ⟨by walk_at "z", ?_⟩
      walk_at "w"
      refine in_two ?_
      walk_at "w"
      walk_at "i"
      refine lin_ok n m b _ _ hd' hw ?_
      walk_at "w"
      walk_at "i"
      exact h
    | bin g u v =>
      have hu : u.depth < n := by simp only [BM.depth] at hd; omega
      have hv : v.depth < n := by simp only [BM.depth] at hd; omega
      cases g <;>
      · walk_at "w"
        walk_at "i"
        refine ⟨by walk_at "z", ?_⟩
        walk_at "w"
        refine in_two ?_
        walk_at "w"
        walk_at "i"
        refine lin_ok n u b _ _ hu hw.1 ?_
        walk_at "w"
        walk_at "i"
        refine lin_ok n v b _ _ hv hw.2 ?_
        have h' := h
        simp only [BM.mem] at h'
        generalize u.mem b = c1 at *
        generalize v.mem b = c2 at *
        cases c1 <;> cases c2 <;>
        · walk_at "w"
          refine ⟨rfl, ?_⟩
          walk_at "w"
          walk_at "i"
          exact h'
/-- all parts come round so -/
def BM.AllP (s p : Nat) : BM → Prop
  | .not m => m.AllP s p
  | .bin _ a b => a.AllP s p ∧ b.AllP s p
  | m => EvP m.fN s p
theorem allP_ev {s p : Nat} : ∀ (m : BM), m.AllP s p → EvP m.fN s p
  | .of l, h => h
  | .rest _ _, h => h
  | .up _, h => h
  | .none, h => h
  | .every, h => h
  | .not m, h => fun b hb => by
    have := allP_ev m h b hb
    show (!m.fN (b + p)) = (!m.fN b)
    rw [this]
  | .bin g x y, h => fun b hb => by
    have h1 := allP_ev x h.1 b hb
    have h2 := allP_ev y h.2 b hb
    show g.on (x.fN (b + p)) (y.fN (b + p)) = g.on (x.fN b) (y.fN b)
    rw [h1, h2]
theorem evp_up {f : Nat → Bool} {s p s' p' : Nat} (h : EvP f s p) (hs : s ≤ s') (hp : p ∣ p') : EvP f s' p' := fun b hb => by
  obtain ⟨k, rfl⟩ := hp
  have := h.mul k b (by omega)
  rw [Nat.mul_comm]
  exact this
theorem allP_up {s p s' p' : Nat} (hs : s ≤ s') (hp : p ∣ p') : ∀ (m : BM), m.AllP s p → m.AllP s' p'
  | .of l, h => evp_up h hs hp
  | .rest _ _, h => evp_up h hs hp
  | .up _, h => evp_up h hs hp
  | .none, h => evp_up h hs hp
  | .every, h => evp_up h hs hp
  | .not m, h => allP_up hs hp m h
  | .bin _ x y, h => ⟨allP_up hs hp x h.1, allP_up hs hp y h.2⟩
theorem lspan_ok {N S : Nat} (hN : 1 ≤ N) (hN2 : N ≤ 80000) (hS : 2 ≤ S) (hS2 : S ≤ 80000) : ∀ (n : Nat) (m : BM) (q : D → Prop) (x : DX → Prop), m.depth < n → m.Wf N S →
    (∀ s p : Nat, 2 ≤ s → s ≤ S → 1 ≤ p → p ∣ N → m.AllP s p → q (.tup [.int (s : Int), .int (p : Int)])) → wp__law_span n [m.toD] q x
  | 0, m, q, x, h, _, _ => by omega
  | n + 1, m, q, x, hd, hw, h => by
    rw [wps__law_span]
    refine ⟨rfl, ?_⟩
    cases m with
    | of l =>
      walk_at "w"
      walk_at "i"
      refine for_map (φ := D.int) (fun pre env => ∃ (t : Int) (v : Sl), (1 ≤ t ∧ t + 1 ≤ (S : Int) ∧ ∀ b ∈ pre, b ≤ t) ∧ env = [.va (BM.of l).toD, .va (.int t), v, .un, .un, .un]) l ⟨1, _, ⟨by omega, by omega, fun b hb => by cases hb⟩, rfl⟩ ?_ ?_
      · rintro pre b suf env e1 hb ⟨t, v, ⟨t1, t2, tb⟩, rfl⟩ _ _ _ _ hNx
        have bl := hw.2 b (by rw [hb]; simp)
        walk_at "w"
        refine hNx _ ⟨if b > t then b else t, .va (.int b), ⟨by split <;> omega, by split <;> omega, fun y hy => ?_⟩, rfl⟩
        rcases List.mem_append.mp hy with z | z
        · have := tb y z
          split <;> omega
        · rw [List.mem_singleton.mp z]
          split <;> omega
      · rintro env ⟨t, v, ⟨t1, t2, tb⟩, rfl⟩
        walk_at "w"
        refine ⟨by walk_at "z", ?_⟩
        have e1 : t + 1 = (((t + 1).toNat : Nat) : Int) := by omega
        have := h (t + 1).toNat 1 (by omega) (by omega) (by omega) (Nat.one_dvd _) fun b hb => by
          have n : ∀ c : Nat, (t + 1).toNat ≤ c → decide ((c : Int) ∈ l) = false := fun c hc => decide_eq_false fun z => by have := tb _ z; omega
          show decide (((b + 1 : Nat) : Int) ∈ l) = decide ((b : Int) ∈ l)
          rw [n _ (by omega), n _ hb]
        rw [← e1] at this
        exact this
    | rest p r =>
      obtain ⟨p1, pd⟩ := hw
      walk_at "w"
      walk_at "i"
      refine ⟨by walk_at "z", ?_⟩
      have e1 : p = ((p.toNat : Nat) : Int) := by omega
      have := h 2 p.toNat (by omega) (by omega) (by omega) (by rw [e1] at pd; exact Int.natCast_dvd_natCast.mp pd) fun b hb => by
        show ((((b + p.toNat : Nat) : Int) - r) % p == 0) = (((b : Int) - r) % p == 0)
        rw [show ((b + p.toNat : Nat) : Int) - r = ((b : Int) - r) + p * 1 by omega, Int.add_mul_emod_self_left]
      rw [← e1] at this
      exact this
    | up k =>
      have hk : k ≤ (S : Int) := hw
      walk_at "w"
      walk_at "i"
      refine ⟨by walk_at "z", ?_⟩
      have e1 : (if k > 2 then k else 2) = (((max 2 k).toNat : Nat) : Int) := by split <;> omega
      have := h (max 2 k).toNat 1 (by omega) (by omega) (by omega) (Nat.one_dvd _) fun b hb => by
        show decide (((b + 1 : Nat) : Int) ≥ k) = decide ((b : Int) ≥ k)
        rw [decide_eq_true (by omega), decide_eq_true (by omega)]
      rw [← e1] at this
      exact this
    | none =>
      walk_at "w"
      walk_at "i"
      exact ⟨by walk_at "z", h 2 1 (by omega) hS (by omega) (Nat.one_dvd _) fun _ _ => rfl⟩
    | every =>
      walk_at "w"
      walk_at "i"
      exact ⟨by walk_at "z", h 2 1 (by omega) hS (by omega) (Nat.one_dvd _) fun _ _ => rfl⟩
    | not m =>
      have hd' : m.depth < n := by simp only [BM.depth] at hd; omega
      walk_at "w"
      walk_at "i"
      refine lspan_ok hN hN2 hS hS2 n m _ _ hd' hw fun s p s1 s2 p1 pd ev => ?_
      walk_at "w"
      walk_at "i"
      exact h s p s1 s2 p1 pd ev
    | bin g u v =>
      have hu : u.depth < n := by simp only [BM.depth] at hd; omega
      have hv : v.depth < n := by simp only [BM.depth] at hd; omega
      have main : ∀ (s1 p1 s2 p2 : Nat), 2 ≤ s1 → s1 ≤ S → 1 ≤ p1 → p1 ∣ N → u.AllP s1 p1 → 2 ≤ s2 → s2 ≤ S → 1 ≤ p2 → p2 ∣ N → v.AllP s2 p2 → ∀ p : Nat, p1 ∣ p → p2 ∣ p → 1 ≤ p → p ≤ Nat.lcm p1 p2 → q (.tup [.int (if (s2 : Int) > (s1 : Int) then (s2 : Int) else (s1 : Int)), .int (p : Int)]) := fun s1 p1 s2 p2 a1 a2 a3 a4 a5 b1 b2 b3 b4 b5 p d1 d2 pp pl => by
        have el : p = Nat.lcm p1 p2 := Nat.le_antisymm pl (Nat.le_of_dvd pp (Nat.lcm_dvd d1 d2))
        have e1 : (if (s2 : Int) > (s1 : Int) then (s2 : Int) else (s1 : Int)) = ((max s1 s2 : Nat) : Int) := by split <;> omega
        rw [e1]
        exact h (max s1 s2) p (by omega) (by omega) pp (by rw [el]; exact Nat.lcm_dvd a4 b4) ⟨allP_up (by omega) d1 u a5, allP_up (by omega) d2 v b5⟩
      cases g <;>
      · walk_at "w"
        walk_at "i"
        refine lspan_ok hN hN2 hS hS2 n u _ _ hu hw.1 fun s1 p1 a1 a2 a3 a4 a5 => ?_
        walk_at "w"
        walk_at "i"
        refine lspan_ok hN hN2 hS hS2 n v _ _ hv hw.2 fun s2 p2 b1 b2 b3 b4 b5 => ?_
        have lp : 1 ≤ Nat.lcm p1 p2 := Nat.lcm_pos a3 b3
        walk_at "w"
        walk_at "i"
        refine ⟨fun k env => ∃ p : Nat, p1 ∣ p ∧ 1 ≤ p ∧ p ≤ Nat.lcm p1 p2 ∧ k = Nat.lcm p1 p2 - p ∧ env = [.va (BM.bin _ u v).toD, .un, .un, .va (.tup [.int (s1 : Int), .int (p1 : Int)]), .va (.tup [.int (s2 : Int), .int (p2 : Int)]), .va (.int (p : Int))], ⟨_, p1, Nat.dvd_refl _, a3, Nat.le_of_dvd lp (Nat.dvd_lcm_left ..), rfl, rfl⟩, ?_⟩
        rintro k env ⟨p, d1, pp, pl, rfl, rfl⟩
        walk_at "w"
        walk_at "i"
        refine ⟨by show (0 : Int) < (p2 : Int); omega, ?_⟩
        walk_at "w"
        refine iteB_by (fun c => ?_) (fun c => ?_)
        · have c1 : ¬ p2 ∣ p := fun z => by
            have : ¬ (p : Int) % (p2 : Int) = 0 := by simpa using c
            exact this (Int.emod_eq_zero_of_dvd (Int.natCast_dvd_natCast.mpr z))
          have lt : p + p1 ≤ Nat.lcm p1 p2 := by
            obtain ⟨a, ha⟩ := d1
            obtain ⟨c, hc⟩ : p1 ∣ Nat.lcm p1 p2 := Nat.dvd_lcm_left ..
            have ne : p ≠ Nat.lcm p1 p2 := fun z => c1 (by rw [z]; exact Nat.dvd_lcm_right ..)
            have ac : a < c := Nat.lt_of_not_le fun z => ne (Nat.le_antisymm pl (by rw [ha, hc]; exact Nat.mul_le_mul_left _ z))
            have := Nat.mul_le_mul_left p1 (show a + 1 ≤ c from ac)
            rw [Nat.mul_add, Nat.mul_one] at this
            omega
          walk_at "w"
          walk_at "i"
          exact ⟨Nat.lcm p1 p2 - (p + p1), by omega, p + p1, Nat.dvd_add d1 (Nat.dvd_refl _), by omega, lt, rfl, by rw [Int.natCast_add]; rfl⟩
        · have c1 : p2 ∣ p := by
            have : (p : Int) % (p2 : Int) = 0 := by simpa using c
            exact Int.natCast_dvd_natCast.mp (Int.dvd_of_emod_eq_zero this)
          walk_at "w"
          walk_at "i"
          exact ⟨by walk_at "z", main s1 p1 s2 p2 a1 a2 a3 a4 a5 b1 b2 b3 b4 b5 p d1 c1 pp pl⟩
section
variable {q : D → Prop} {x : DX → Prop}
theorem is_base_int {i : Int} (h : q (.bl (decide (i ≥ 2)))) : wp_is_base [.int i] q x := by
  unfold wp_is_base
  refine ⟨rfl, ?_⟩
  walk_at "w"
  unfold wp_is_integer
  refine ⟨rfl, ?_⟩
  walk_at "w"
  exact h
theorem rng_zero : List.range 1 = [0] := rfl
theorem of_can {l ks : List Int} (h2 : ∀ b ∈ l, 2 ≤ b) (hk : ks.Pairwise (· < ·)) (hm : ∀ z, z ∈ ks ↔ z ∈ l) : Can (BM.of l).fN (match ks.getLast? with | none => 2 | some z => z.toNat + 1) 1 [] (ks.map Int.toNat) := by
  have f : ∀ b : Nat, (BM.of l).fN b = decide ((b : Int) ∈ ks) := fun b => decide_eq_decide.mpr (hm _).symm
  have k2 : ∀ z ∈ ks, 2 ≤ z := fun z hz => h2 z ((hm z).mp hz)
  have top : ∀ b : Nat, (match ks.getLast? with | none => 2 | some z => z.toNat + 1) ≤ b → (BM.of l).fN b = false := fun b hb => by
    rw [f]
    refine decide_eq_false fun z => ?_
    rcases snoc ks with rfl | ⟨l', y, rfl⟩
    · cases z
    · simp only [List.getLast?_append, List.getLast?_singleton, Option.some_or] at hb
      have y2 := k2 y (by simp)
      rcases List.mem_append.mp z with w | w
      · have := (List.pairwise_append.mp hk).2.2 _ w y (by simp)
        omega
      · have := List.mem_singleton.mp w
        omega
  have s2 : 2 ≤ (match ks.getLast? with | none => 2 | some z => z.toNat + 1) := by
    rcases snoc ks with rfl | ⟨l', y, rfl⟩
    · exact Nat.le_refl _
    · simp only [List.getLast?_append, List.getLast?_singleton, Option.some_or]
      have := k2 y (by simp)
      omega
  refine ⟨s2, by decide, fun b hb => by rw [top _ hb, top _ (by omega)], fun s' p' hp _ => hp, ?_, ?_, ?_⟩
  · rcases snoc ks with rfl | ⟨l', y, rfl⟩
    · exact .inl rfl
    · refine .inr ?_
      have y2 := k2 y (by simp)
      rw [top _ (by omega), f]
      simp only [List.getLast?_append, List.getLast?_singleton, Option.some_or]
      rw [decide_eq_true (by rw [show ((y.toNat + 1 - 1 : Nat) : Int) = y by omega]; simp)]
      simp
  · rw [rng_zero, List.filter_cons_of_neg (by rw [top _ (by omega)]; simp)]
    rfl
  · refine asc_eq ?_ (asc_filter _ _) fun z => ?_
    · rw [List.pairwise_map]
      refine List.Pairwise.imp_of_mem (fun {a b} ha hb hab => ?_) hk
      have := k2 a ha
      have := k2 b hb
      omega
    · rw [List.mem_map, List.mem_filter, List.mem_range, Bool.and_eq_true, f]
      constructor
      · rintro ⟨y, hy, rfl⟩
        have y2 := k2 y hy
        refine ⟨Nat.lt_of_not_le fun c => ?_, decide_eq_true (by omega), decide_eq_true (by rw [show ((y.toNat : Nat) : Int) = y by omega]; exact hy)⟩
        have := top _ c
        rw [f] at this
        exact of_decide_eq_false this (by rw [show ((y.toNat : Nat) : Int) = y by omega]; exact hy)
      · rintro ⟨_, _, h3⟩
        exact ⟨(z : Int), of_decide_eq_true h3, by omega⟩
theorem of_ok {l : List Int} (h2 : ∀ b ∈ l, 2 ≤ b) (hl : l.length ≤ 50) (h : ∀ s p rs ls, Can (BM.of l).fN s p rs ls → q (bo s p rs ls)) : wp_Bases_of [.cl 2, .tup (l.map .int)] q x := by
  unfold wp_Bases_of
  refine ⟨rfl, ?_⟩
  refine seq_by (fun env => ∃ v : Sl, env = [.va (.cl 2), .va (.tup (l.map .int)), v, .un]) (fun e' _ _ _ _ hnx => ?_) ?_
  · walk_at "w"
    refine for_map (φ := D.int) (fun _ env => ∃ v : Sl, env = [.va (.cl 2), .va (.tup (l.map .int)), v, .un]) l ⟨_, rfl⟩ ?_ (fun env z => hnx env z)
    rintro pre b suf env e1 hb ⟨v, rfl⟩ _ _ _ _ hN
    have b2 := h2 b (by rw [hb]; simp)
    walk_at "w"
    refine is_base_int ?_
    rw [decide_eq_true b2]
    walk_at "w"
    exact hN _ ⟨_, rfl⟩
  rintro _ ⟨v, rfl⟩
  walk_at "w"
  refine lc_map (φ := D.int) (fun z => .int z) l (fun z hz k n hk => ?_) (by omega) ?_
  · walk_at "w"
    exact hk
  refine ⟨l, rfl, by omega, fun ks hk hm => ?_⟩
  have can := of_can h2 hk hm
  have k2 : ∀ z ∈ ks, 2 ≤ z := fun z hz => h2 z ((hm z).mp hz)
  have en : ni (ks.map Int.toNat) = ks.map D.int := by
    unfold ni
    rw [List.map_map]
    refine List.map_congr_left fun z hz => ?_
    have := k2 z hz
    show D.int ((z.toNat : Nat) : Int) = D.int z
    rw [show ((z.toNat : Nat) : Int) = z by omega]
  walk_at "w"
  refine ⟨rfl, ?_⟩
  rcases snoc ks with rfl | ⟨l', y, rfl⟩
  · walk_at "w"
    refine ⟨by walk_at "z", ?_⟩
    walk_at "w"
    refine init_bo ?_
    exact h _ _ _ _ can
  · have y2 := k2 y (by simp)
    refine test_by (c := dTest _) true (fun q' hq => ?_) ?_
    · walk_at "w"
      rw [decide_eq_true (by simp)]
      exact hq
    walk_at "w"
    refine ⟨.int y, by rw [List.map_append]; exact atI_end, ?_⟩
    walk_at "w"
    refine ⟨by walk_at "z", ?_⟩
    walk_at "w"
    refine init_bo ?_
    have := h _ _ _ _ can
    unfold bo at this
    rw [en] at this
    simp only [List.getLast?_append, List.getLast?_singleton, Option.some_or] at this
    rw [show ((y.toNat + 1 : Nat) : Int) = y + 1 by omega] at this
    exact this
theorem rest_ok {p r : Int} (p1 : 1 ≤ p) (p2 : p ≤ 80000) (h : ∀ s p' rs ls, Can (BM.rest p r).fN s p' rs ls → q (bo s p' rs ls)) : wp_Bases_rest [.cl 2, .int p, .int r] q x := by
  obtain ⟨n, rfl⟩ := Int.eq_ofNat_of_zero_le (show 0 ≤ p by omega)
  unfold wp_Bases_rest
  refine ⟨rfl, ?_⟩
  walk_at "w"
  refine ⟨by walk_at "z", ?_⟩
  walk_at "w"
  refine ⟨⟨by omega, by omega⟩, ?_⟩
  rw [Int.toNat_natCast, rgD_map]
  refine lc_map (φ := fun i : Nat => D.int (0 + (i : Int))) (fun i => .bl ((i : Int) == r % (n : Int))) (List.range n) (fun i hi k no hk => ?_) (by simp; omega) ?_
  · rw [Int.zero_add]
    walk_at "w"
    exact ⟨by omega, hk⟩
  walk_at "w"
  have e : (List.range n).map (fun i : Nat => D.bl ((i : Int) == r % (n : Int))) = ((List.range n).map fun i : Nat => ((i : Int) == r % (n : Int))).map .bl := by rw [List.map_map]; rfl
  rw [e]
  refine settled_ok (lone := []) (by simp; omega) (by simp; omega) (by decide) fun s p' rs ls hc => h _ _ _ _ (hc.congr fun b hb => ?_)
  unfold fset
  rw [if_neg (by simp; omega), List.length_map, List.length_range]
  have lt : b % n < n := Nat.mod_lt b (by omega)
  rw [List.getD_eq_getElem?_getD, List.getElem?_map, List.getElem?_range lt]
  show (((b % n : Nat) : Int) == r % (n : Int)) = (((b : Int) - r) % (n : Int) == 0)
  rw [Bool.eq_iff_iff, beq_iff_eq, beq_iff_eq, Int.natCast_emod]
  exact Int.emod_eq_emod_iff_emod_sub_eq_zero
theorem up_ok {n : Int} (h : ∀ s p' rs ls, Can (BM.up n).fN s p' rs ls → q (bo s p' rs ls)) : wp_Bases_upward [.cl 2, .int n] q x := by
  unfold wp_Bases_upward
  refine ⟨rfl, ?_⟩
  walk_at "w"
  refine ⟨rfl, ?_⟩
  walk_at "w"
  refine ⟨by walk_at "z", ?_⟩
  walk_at "w"
  refine ⟨by walk_at "z", ?_⟩
  walk_at "w"
  refine init_bo ?_
  have e1 : (if n > 2 then n else 2) = (((max 2 n).toNat : Nat) : Int) := by split <;> omega
  rw [e1]
  have f : ∀ b : Nat, (BM.up n).fN b = decide ((b : Int) ≥ n) := fun b => rfl
  refine h (max 2 n).toNat 1 [0] [] ⟨by omega, by decide, fun b hb => ?_, fun s' p' hp _ => hp, ?_, ?_, ?_⟩
  · rw [f, f, decide_eq_true (by omega), decide_eq_true (by omega)]
  · by_cases c : n ≤ 2
    · exact .inl (by omega)
    · refine .inr ?_
      rw [f, f, decide_eq_true (by omega), decide_eq_false (by omega)]
      simp
  · rw [rng_zero, List.filter_cons_of_pos (by rw [f]; exact decide_eq_true (by omega))]
    rfl
  · symm
    rw [List.filter_eq_nil_iff]
    intro b hb
    have := List.mem_range.mp hb
    rw [f]
    simp
    omega
end
theorem lcm_of {p1 p2 N : Nat} (hN : 1 ≤ N) (h1 : p1 ∣ N) (h2 : p2 ∣ N) (hl : N ≤ 80000) : Nat.lcm p1 p2 ≤ 80000 := Nat.le_trans (Nat.le_of_dvd hN (Nat.lcm_dvd h1 h2)) hl
theorem set_of_ok {N S : Nat} (hN : 1 ≤ N) (hN2 : N ≤ 80000) (hS : 2 ≤ S) (hS2 : S ≤ 80000) : ∀ (n : Nat) (m : BM) (q : D → Prop) (x : DX → Prop), m.depth < n → m.Wf N S →
    (∀ s p rs ls, Can m.fN s p rs ls → q (bo s p rs ls)) → wp__law_set_of n [m.toD] q x
  | 0, m, q, x, h, _, _ => by omega
  | n + 1, m, q, x, hd, hw, h => by
    rw [wps__law_set_of]
    refine ⟨rfl, ?_⟩
    cases m with
    | of l =>
      walk_at "w"
      walk_at "i"
      exact of_ok (fun b hb => (hw.2 b hb).1) hw.1 h
    | rest p r =>
      walk_at "w"
      walk_at "i"
      have : p ≤ (N : Int) := Int.le_of_dvd (by omega) hw.2
      exact rest_ok hw.1 (by omega) h
    | up k =>
      walk_at "w"
      walk_at "i"
      exact up_ok h
    | none =>
      walk_at "w"
      walk_at "i"
      exact none_ok (h 2 1 [] [] ⟨by decide, by decide, fun _ _ => rfl, fun s' p' hp _ => hp, .inl rfl, rfl, rfl⟩)
    | every =>
      walk_at "w"
      walk_at "i"
      exact every_ok (h 2 1 [0] [] ⟨by decide, by decide, fun _ _ => rfl, fun s' p' hp _ => hp, .inl rfl, rfl, rfl⟩)
    | not m =>
      have hd' : m.depth < n := by simp only [BM.depth] at hd; omega
      walk_at "w"
      walk_at "i"
      refine set_of_ok hN hN2 hS hS2 n m _ _ hd' hw fun s p rs ls hc => ?_
      obtain ⟨sl, pl⟩ := can_le hc hN hS (wf_ev m hw)
      have pl2 := Nat.le_of_dvd hN pl
      walk_at "w"
      walk_at "i"
      refine ⟨rfl, ?_⟩
      unfold wp_Bases_invert
      refine ⟨rfl, ?_⟩
      walk_at "w"
      refine every_ok ?_
      walk_at "w"
      have ce : Can BM.every.fN 2 1 [0] [] := ⟨by decide, by decide, fun _ _ => rfl, fun s' p' hp _ => hp, .inl rfl, rfl, rfl⟩
      refine mixed_ok (g := .sub) ce hc (by decide) (by omega) (by rw [Nat.lcm_one_left]; omega) fun s' p' rs' ls' hc' => h _ _ _ _ (hc'.congr fun b _ => ?_)
      show (true && !m.mem b) = !m.mem b
      simp
    | bin g u v =>
      have hu : u.depth < n := by simp only [BM.depth] at hd; omega
      have hv : v.depth < n := by simp only [BM.depth] at hd; omega
      cases g with
      | an =>
        walk_at "w"
        walk_at "i"
        refine set_of_ok hN hN2 hS hS2 n u _ _ hu hw.1 fun s1 p1 r1 l1 c1 => ?_
        walk_at "w"
        walk_at "i"
        refine set_of_ok hN hN2 hS hS2 n v _ _ hv hw.2 fun s2 p2 r2 l2 c2 => ?_
        obtain ⟨sl, pl⟩ := can_le c1 hN hS (wf_ev u hw.1)
        obtain ⟨sl2, pl2⟩ := can_le c2 hN hS (wf_ev v hw.2)
        walk_at "w"
        walk_at "i"
        refine ⟨rfl, rfl, ?_⟩
        unfold wp_Bases_and
        refine ⟨rfl, ?_⟩
        walk_at "w"
        exact mixed_ok (g := .an) c1 c2 (by omega) (by omega) (lcm_of hN pl pl2 hN2) h
      | or =>
        walk_at "w"
        walk_at "i"
        refine set_of_ok hN hN2 hS hS2 n u _ _ hu hw.1 fun s1 p1 r1 l1 c1 => ?_
        walk_at "w"
        walk_at "i"
        refine set_of_ok hN hN2 hS hS2 n v _ _ hv hw.2 fun s2 p2 r2 l2 c2 => ?_
        obtain ⟨sl, pl⟩ := can_le c1 hN hS (wf_ev u hw.1)
        obtain ⟨sl2, pl2⟩ := can_le c2 hN hS (wf_ev v hw.2)
        walk_at "w"
        walk_at "i"
        refine ⟨rfl, rfl, ?_⟩
        unfold wp_Bases_or
        refine ⟨rfl, ?_⟩
        walk_at "w"
        exact mixed_ok (g := .or) c1 c2 (by omega) (by omega) (lcm_of hN pl pl2 hN2) h
      | sub =>
        walk_at "w"
        walk_at "i"
        refine set_of_ok hN hN2 hS hS2 n u _ _ hu hw.1 fun s1 p1 r1 l1 c1 => ?_
        walk_at "w"
        walk_at "i"
        refine set_of_ok hN hN2 hS hS2 n v _ _ hv hw.2 fun s2 p2 r2 l2 c2 => ?_
        obtain ⟨sl, pl⟩ := can_le c1 hN hS (wf_ev u hw.1)
        obtain ⟨sl2, pl2⟩ := can_le c2 hN hS (wf_ev v hw.2)
        walk_at "w"
        walk_at "i"
        refine ⟨rfl, rfl, ?_⟩
        unfold wp_Bases_sub
        refine ⟨rfl, ?_⟩
        walk_at "w"
        exact mixed_ok (g := .sub) c1 c2 (by omega) (by omega) (lcm_of hN pl pl2 hN2) h
      | xor =>
        walk_at "w"
        walk_at "i"
        refine set_of_ok hN hN2 hS hS2 n u _ _ hu hw.1 fun s1 p1 r1 l1 c1 => ?_
        walk_at "w"
        walk_at "i"
        refine set_of_ok hN hN2 hS hS2 n v _ _ hv hw.2 fun s2 p2 r2 l2 c2 => ?_
        obtain ⟨sl, pl⟩ := can_le c1 hN hS (wf_ev u hw.1)
        obtain ⟨sl2, pl2⟩ := can_le c2 hN hS (wf_ev v hw.2)
        walk_at "w"
        walk_at "i"
        refine ⟨rfl, rfl, ?_⟩
        unfold wp_Bases_xor
        refine ⟨rfl, ?_⟩
        walk_at "w"
        exact mixed_ok (g := .xor) c1 c2 (by omega) (by omega) (lcm_of hN pl pl2 hN2) h
theorem cut_mid {α : Type} (zs : List α) (a b : Nat) (h : a ≤ b) : cutL zs (some (a : Int)) (some (b : Int)) = (zs.take b).drop a := by
  unfold cutL
  rw [show HT.sIx zs.length 0 (some (a : Int)) = min a zs.length from HT.sIx_nat _ _ a, show HT.sIx zs.length zs.length (some (b : Int)) = min b zs.length from HT.sIx_nat _ _ b]
  refine List.ext_getElem? fun i => ?_
  simp only [List.getElem?_drop, List.getElem?_take]
  by_cases c : a ≤ zs.length
  · rw [Nat.min_eq_left c]
    by_cases c2 : i < min b zs.length - a
    · rw [if_pos c2, if_pos (by omega)]
    · rw [if_neg c2]
      split
      · rw [List.getElem?_eq_none (by omega)]
      · rfl
  · rw [Nat.min_eq_right (by omega), if_neg (by omega)]
    split
    · rw [List.getElem?_eq_none (by omega)]
    · rfl
theorem sort_uniq : ∀ {xs ys : List Int}, xs.Perm ys → xs.Pairwise (· ≤ ·) → ys.Pairwise (· < ·) → xs = ys := fun {xs ys} hp hx hy => by
  refine List.Perm.eq_of_pairwise (le := (· ≤ ·)) (fun a b _ _ h1 h2 => Int.le_antisymm h1 h2) hx (hy.imp fun h => Int.le_of_lt h) hp
theorem told_ok {N S : Nat} (hN : 1 ≤ N) (hN2 : N ≤ 20000) (hS : 2 ≤ S) (hS2 : S ≤ 20000) {m : BM} {q : D → Prop} {x : DX → Prop} (hd : m.depth < 5) (hw : m.Wf N S) (h : ∀ s p rs ls, Can m.fN s p rs ls → q (tl_ s p rs ls)) : wp__law_told [m.toD] q x := by
  unfold wp__law_told
  refine ⟨rfl, ?_⟩
  refine seq_by (fun env => ∃ s n : Nat, (2 ≤ s ∧ s ≤ S ∧ 1 ≤ n ∧ n ∣ N ∧ EvP m.fN s n) ∧ env = [.va m.toD, .va (.int (s : Int)), .va (.int (n : Int)), .un, .un, .un, .un, .un, .un, .un]) (fun e' _ _ _ _ hnx => ?_) ?_
  · walk_at "w"
    refine lspan_ok hN (by omega) hS (by omega) 5 m _ _ hd hw fun s n a1 a2 a3 a4 a5 => ?_
    have a5 := allP_ev m a5
    walk_at "w"
    exact hnx _ ⟨s, n, ⟨a1, a2, a3, a4, a5⟩, rfl⟩
  rintro _ ⟨s, n, ⟨s1, s2, n1, nd, ev⟩, rfl⟩
  have nN : n ≤ 20000 := Nat.le_trans (Nat.le_of_dvd hN nd) hN2
  have mlen : ((List.range (s + 2 * n)).map m.fN).length = s + 2 * n := by simp
  have mget : ∀ b, b < s + 2 * n → ((List.range (s + 2 * n)).map m.fN).getD b false = m.fN b := fun b hb => by
    rw [List.getD_eq_getElem?_getD, List.getElem?_map, List.getElem?_range hb]
    rfl
  generalize hms : (List.range (s + 2 * n)).map m.fN = ms at *
  refine seq2 (fun env => env = [.va m.toD, .va (.int (s : Int)), .va (.int (n : Int)), .va (.lst (ms.map .bl)), .va (.lst (((ms.take (s + n)).drop s).map .bl)), .un, .un, .un, .un, .un]) (fun e' _ _ _ _ hnx => ?_) ?_
  · walk_at "w"
    refine ⟨mulW (smN (by decide)) (smN (by omega)), ?_⟩
    walk_at "w"
    refine ⟨⟨by omega, by omega⟩, ?_⟩
    rw [show ((s : Int) + 2 * (n : Int)).toNat = s + 2 * n by omega, rgD_map]
    refine lc_map (φ := fun i : Nat => D.int (0 + (i : Int))) (fun i => .bl (m.fN i)) (List.range (s + 2 * n)) (fun i hi k no hk => ?_) (by simp; omega) ?_
    · rw [Int.zero_add]
      walk_at "w"
      exact lin_ok 5 m _ _ _ hd hw hk
    have e1 : (List.range (s + 2 * n)).map (fun i => D.bl (m.fN i)) = ms.map .bl := by rw [← hms, List.map_map]; rfl
    rw [e1]
    walk_at "w"
    rw [show (s : Int) + (n : Int) = ((s + n : Nat) : Int) by omega, cut_mid _ _ _ (by omega), ← List.map_take, ← List.map_drop]
    exact hnx _ rfl
  rintro _ rfl
  have tlen : ((ms.take (s + n)).drop s).length = n := by simp; omega
  have tget : ∀ i, i < n → ((ms.take (s + n)).drop s)[i]? = some (m.fN (s + i)) := fun i hi => by
    rw [List.getElem?_drop, List.getElem?_take_of_lt (by omega), ← mget (s + i) (by omega), List.getD_eq_getElem?_getD, List.getElem?_eq_getElem (by omega)]
    rfl
  generalize (ms.take (s + n)).drop s = tt at *
  have rot : ∀ d, 1 ≤ d → d ≤ n → (tt = tt.drop d ++ tt.take d ↔ EvP m.fN s d) := fun d d1 dn => by
    rw [← rot_iff (d := d) n1 ev]
    have get : ∀ i, i < n → (tt.drop d ++ tt.take d)[i]? = some (m.fN (s + (i + d) % n)) := fun i hi => by
      by_cases c : i + d < n
      · rw [List.getElem?_append_left (by rw [List.length_drop]; omega), List.getElem?_drop, Nat.mod_eq_of_lt c, Nat.add_comm d i, tget _ c]
      · rw [List.getElem?_append_right (by rw [List.length_drop]; omega), List.length_drop, tlen, List.getElem?_take_of_lt (by omega), tget _ (by omega)]
        rw [Nat.mod_eq_sub_mod (by omega), Nat.mod_eq_of_lt (by omega)]
        congr 3
        omega
    constructor
    · intro e i hi
      have g1 := tget i hi
      have g2 := get i hi
      rw [← e, g1] at g2
      exact Option.some.inj g2
    · intro e
      refine List.ext_getElem? fun i => ?_
      by_cases c : i < n
      · rw [tget i c, get i c, e i c]
      · rw [List.getElem?_eq_none (by omega), List.getElem?_eq_none (by simp; omega)]
  -- the least period
  refine seq_by (fun env => ∃ d : Nat, (1 ≤ d ∧ d ≤ n ∧ EvP m.fN s d ∧ ∀ e, 1 ≤ e → e < d → e ∣ n → ¬ EvP m.fN s e) ∧ env = [.va m.toD, .va (.int (s : Int)), .va (.int (n : Int)), .va (.lst (ms.map .bl)), .va (.lst (tt.map .bl)), .va (.int (d : Int)), .un, .un, .un, .un]) (fun e' _ _ _ _ hnx => ?_) ?_
  · walk_at "w"
    refine ⟨⟨by omega, by omega, by omega, by omega⟩, ?_⟩
    rw [show ((n : Int) + 1 - 1).toNat = n by omega, rgD_map]
    refine lc_filter (φ := fun i : Nat => D.int (1 + (i : Int))) (fun i => n % (i + 1) == 0 && decide (tt = tt.drop (i + 1) ++ tt.take (i + 1))) (fun i => .int ((i + 1 : Nat) : Int)) (List.range n) [] (fun i hi kk no h1 h2 => ?_) (by simp; omega) ?_
    · have hi' := List.mem_range.mp hi
      rw [show (1 : Int) + (i : Int) = ((i + 1 : Nat) : Int) by omega]
      refine test_by (c := dAnd _ _) (n % (i + 1) == 0 && decide (tt = tt.drop (i + 1) ++ tt.take (i + 1))) (fun q' hq => ?_) (iteB_by (fun c => ?_) fun c => h2 c)
      · walk_at "w"
        refine ⟨by omega, ?_⟩
        walk_at "w"
        have e2 : (((n : Int) % ((i + 1 : Nat) : Int)) == 0) = (n % (i + 1) == 0) := by
          rw [← Int.natCast_emod, Bool.eq_iff_iff]
          simp only [beq_iff_eq]
          omega
        rw [e2]
        refine iteB_by (fun c => ?_) (fun c => ?_)
        · rw [c, Bool.true_and] at hq
          walk_at "w"
          rw [cut_drop, take_map_bl, ← List.map_drop, ← List.map_append]
          refine ⟨by simp; omega, ?_⟩
          refine eqP_bools ?_
          exact hq
        · rw [c, Bool.false_and] at hq
          exact hq
      · exact h1 c
    rw [List.nil_append]
    -- the first one
    obtain ⟨d0, rest, hr, hm⟩ : ∃ (d0 : Nat) (rest : List Nat), (List.range n).filter (fun i => n % (i + 1) == 0 && decide (tt = tt.drop (i + 1) ++ tt.take (i + 1))) = d0 :: rest ∧ ∀ e ∈ rest, d0 < e := by
      cases hq : (List.range n).filter (fun i => n % (i + 1) == 0 && decide (tt = tt.drop (i + 1) ++ tt.take (i + 1))) with
      | nil =>
        have := List.filter_eq_nil_iff.mp hq (n - 1) (List.mem_range.mpr (by omega))
        refine (this ?_).elim
        rw [show n - 1 + 1 = n by omega, Nat.mod_self]
        have := (rot n n1 (Nat.le_refl _)).mpr ev
        simp only [beq_self_eq_true, Bool.true_and]
        exact decide_eq_true this
      | cons d0 rest =>
        refine ⟨d0, rest, rfl, fun e he => ?_⟩
        have := asc_filter n (fun i => n % (i + 1) == 0 && decide (tt = tt.drop (i + 1) ++ tt.take (i + 1)))
        rw [hq, List.pairwise_cons] at this
        exact this.1 e he
    rw [hr]
    have mem0 : d0 ∈ (List.range n).filter (fun i => n % (i + 1) == 0 && decide (tt = tt.drop (i + 1) ++ tt.take (i + 1))) := by rw [hr]; exact List.mem_cons_self
    obtain ⟨m1, m2⟩ := List.mem_filter.mp mem0
    have m1 := List.mem_range.mp m1
    rw [Bool.and_eq_true] at m2
    walk_at "w"
    refine ⟨.int ((d0 + 1 : Nat) : Int), atI_at (k := 0) rfl rfl, ?_⟩
    refine hnx _ ⟨d0 + 1, ⟨by omega, by omega, (rot _ (by omega) (by omega)).mp (of_decide_eq_true m2.2), fun e e1 el ed he => ?_⟩, rfl⟩
    have : e - 1 ∈ (List.range n).filter (fun i => n % (i + 1) == 0 && decide (tt = tt.drop (i + 1) ++ tt.take (i + 1))) := by
      refine List.mem_filter.mpr ⟨List.mem_range.mpr (by omega), ?_⟩
      rw [show e - 1 + 1 = e by omega, Nat.mod_eq_zero_of_dvd ed]
      simp only [beq_self_eq_true, Bool.true_and]
      exact decide_eq_true ((rot e e1 (by omega)).mpr he)
    rw [hr] at this
    rcases List.mem_cons.mp this with z | z
    · omega
    · have := hm _ z
      omega
  rintro _ ⟨d, ⟨d1, dn, dev, dmin⟩, rfl⟩
  clear rot tget tlen
  have dms : s + d ≤ ms.length := by omega
  -- the least start
  refine seq2 (fun env => ∃ t : Nat, (2 ≤ t ∧ t ≤ s ∧ EvP m.fN t d ∧ (t = 2 ∨ m.fN (t - 1) ≠ m.fN (t - 1 + d))) ∧ env = [.va m.toD, .va (.int (s : Int)), .va (.int (n : Int)), .va (.lst (ms.map .bl)), .va (.lst (tt.map .bl)), .va (.int (d : Int)), .va (.int (t : Int)), .un, .un, .un]) (fun e' _ _ _ _ hnx => ?_) ?_
  · walk_at "w"
    refine ⟨fun k env => ∃ t : Nat, k = t ∧ 2 ≤ t ∧ t ≤ s ∧ EvP m.fN t d ∧ env = [.va m.toD, .va (.int (s : Int)), .va (.int (n : Int)), .va (.lst (ms.map .bl)), .va (.lst (tt.map .bl)), .va (.int (d : Int)), .va (.int (t : Int)), .un, .un, .un], ⟨_, s, rfl, s1, Nat.le_refl _, dev, rfl⟩, ?_⟩
    rintro k env ⟨t, rfl, t2, ts, tev, rfl⟩
    refine test_by (c := dAnd _ _) (decide (2 < k ∧ m.fN (k - 1) = m.fN (k - 1 + d))) (fun q' hq => ?_) ?_
    · walk_at "w"
      refine iteB_by (fun c => ?_) (fun c => ?_)
      · have c1 : 2 < k := by
          have : (k : Int) > 2 := of_decide_eq_true c
          omega
        walk_at "w"
        refine ⟨_, bls_at (k := k - 1) (by omega) (by omega), ?_⟩
        walk_at "w"
        refine ⟨_, bls_at (k := k - 1 + d) (by omega) (by omega), ?_⟩
        rw [mget _ (by omega), mget _ (by omega)]
        walk_at "w"
        have e2 : (m.fN (k - 1) == m.fN (k - 1 + d)) = decide (2 < k ∧ m.fN (k - 1) = m.fN (k - 1 + d)) := by
          rw [Bool.eq_iff_iff]
          simp only [beq_iff_eq, decide_eq_true_eq]
          exact ⟨fun z => ⟨c1, z⟩, fun z => z.2⟩
        rw [e2]
        exact hq
      · have c1 : ¬ 2 < k := by
          have : ¬ (k : Int) > 2 := of_decide_eq_false c
          omega
        rw [decide_eq_false fun z => c1 z.1] at hq
        exact hq
    refine iteB_by (fun c => ?_) (fun c => ?_)
    · obtain ⟨c1, c2⟩ := of_decide_eq_true c
      walk_at "w"
      refine ⟨k - 1, by omega, k - 1, rfl, by omega, by omega, fun b hb => ?_, ?_⟩
      · by_cases e : b = k - 1
        · rw [e]; exact c2.symm
        · exact tev b (by omega)
      · rw [show ((k - 1 : Nat) : Int) = (k : Int) - 1 by omega]
        rfl
    · refine hnx _ ⟨k, ⟨t2, ts, tev, ?_⟩, rfl⟩
      have := of_decide_eq_false c
      by_cases e : k = 2
      · exact .inl e
      · exact .inr fun z => this ⟨by omega, z⟩
  rintro _ ⟨t, ⟨t2, ts, tev, tmin⟩, rfl⟩
  -- the rests and the lone ones
  have can := told_can (rs := (List.range d).filter fun r => m.fN (r + d * t)) (ls := (List.range t).filter fun b => decide (2 ≤ b) && m.fN b) n1 ev d1 dev dmin t2 tev tmin rfl rfl
  walk_at "w"
  refine ⟨⟨by omega, by omega, by omega, by omega⟩, ?_⟩
  rw [show ((t : Int) + (d : Int) - (t : Int)).toNat = d by omega, rgD_map]
  refine lc_filter (φ := fun i : Nat => D.int ((t : Int) + (i : Int))) (fun i => m.fN (t + i)) (fun i => .int (((t + i) % d : Nat) : Int)) (List.range d) [] (fun i hi kk no h1 h2 => ?_) (by simp; omega) ?_
  · have hi' := List.mem_range.mp hi
    rw [show (t : Int) + (i : Int) = ((t + i : Nat) : Int) by omega]
    walk_at "w"
    refine ⟨_, bls_at (k := t + i) rfl (by omega), ?_⟩
    rw [mget _ (by omega)]
    refine iteB_by (fun c => ?_) (fun c => ?_)
    · walk_at "w"
      refine ⟨by omega, ?_⟩
      have := h1 c
      rw [Int.natCast_emod] at this
      exact this
    · exact h2 c
  walk_at "w"
  refine ⟨((List.range d).filter fun i => m.fN (t + i)).map fun i : Nat => (((t + i) % d : Nat) : Int), by rw [List.nil_append, List.map_map]; rfl, fun ks hp hk => ?_⟩
  have eks : ks = ((List.range d).filter fun r => m.fN (r + d * t)).map fun r : Nat => (r : Int) := by
    refine sort_uniq (hp.trans ?_) hk ?_
    · have : ∀ (l : List Nat), l.map (fun i : Nat => (((t + i) % d : Nat) : Int)) = (l.map fun i => (t + i) % d).map fun r : Nat => (r : Int) := fun l => by rw [List.map_map]; rfl
      rw [this]
      refine List.Perm.map _ ?_
      have nd1 : (((List.range d).filter fun i => m.fN (t + i)).map fun i => (t + i) % d).Nodup := by
        refine List.pairwise_map.mpr (List.Pairwise.imp_of_mem (fun {a b} ha hb hne hab => hne ?_) (List.Pairwise.filter _ List.nodup_range))
        have la := List.mem_range.mp (List.mem_filter.mp ha).1
        have lb := List.mem_range.mp (List.mem_filter.mp hb).1
        have key : ∀ {a b : Nat}, a ≤ b → b < d → (t + a) % d = (t + b) % d → a = b := fun {a b} h1 h2 h3 => by
          have := Nat.dvd_of_mod_eq_zero (Nat.sub_mod_eq_zero_of_mod_eq h3.symm)
          rw [show t + b - (t + a) = b - a by omega] at this
          have := Nat.eq_zero_of_dvd_of_lt this (by omega)
          omega
        rcases Nat.le_total a b with l | l
        · exact key l lb hab
        · exact (key l la hab.symm).symm
      refine (List.perm_ext_iff_of_nodup nd1 (List.Pairwise.filter _ List.nodup_range)).mpr fun r => ?_
      rw [List.mem_map, List.mem_filter, List.mem_range]
      have per := can.per
      constructor
      · rintro ⟨i, hi, rfl⟩
        obtain ⟨i1, i2⟩ := List.mem_filter.mp hi
        refine ⟨Nat.mod_lt _ d1, ?_⟩
        rw [← i2]
        refine tev.mod ?_ (by omega) ?_
        · have := Nat.mul_le_mul_right t d1
          omega
        · rw [Nat.add_mul_mod_self_left, Nat.mod_mod]
      · rintro ⟨r1, r2⟩
        have td : t % d < d := Nat.mod_lt t d1
        refine ⟨(r + d - t % d) % d, List.mem_filter.mpr ⟨List.mem_range.mpr (Nat.mod_lt _ d1), ?_⟩, ?_⟩
        · rw [← r2]
          refine tev.mod (by omega) ?_ ?_
          · have := Nat.mul_le_mul_right t d1
            omega
          · rw [Nat.add_mul_mod_self_left, Nat.add_mod, Nat.mod_mod, ← Nat.add_mod]
            rw [Nat.add_mod, show (r + d - t % d) % d = (r + d - t % d) % d from rfl, ← Nat.add_mod]
            have : t + (r + d - t % d) = r + d * (t / d + 1) := by
              have := Nat.div_add_mod t d
              rw [Nat.mul_add, Nat.mul_one]
              omega
            rw [this, Nat.add_mul_mod_self_left]
        · rw [Nat.add_mod, Nat.mod_mod, ← Nat.add_mod]
          have : t + (r + d - t % d) = r + d * (t / d + 1) := by
            have := Nat.div_add_mod t d
            rw [Nat.mul_add, Nat.mul_one]
            omega
          rw [this, Nat.add_mul_mod_self_left, Nat.mod_eq_of_lt r1]
    · rw [List.pairwise_map]
      exact (asc_filter _ _).imp fun h => by omega
  subst eks
  walk_at "w"
  refine ⟨⟨by omega, by omega, by omega, by omega⟩, ?_⟩
  rw [show ((t : Int) - 2).toNat = t - 2 by omega, rgD_map]
  refine lc_filter (φ := fun i : Nat => D.int (2 + (i : Int))) (fun i => m.fN (2 + i)) (fun i => .int ((2 + i : Nat) : Int)) (List.range (t - 2)) [] (fun i hi kk no h1 h2 => ?_) (by simp; omega) ?_
  · have hi' := List.mem_range.mp hi
    rw [show (2 : Int) + (i : Int) = ((2 + i : Nat) : Int) by omega]
    walk_at "w"
    refine ⟨_, bls_at (k := 2 + i) rfl (by omega), ?_⟩
    rw [mget _ (by omega)]
    refine iteB_by (fun c => ?_) (fun c => ?_)
    · exact h1 c
    · exact h2 c
  walk_at "w"
  refine ⟨by walk_at "z", ?_⟩
  have el : ni ((List.range t).filter fun b => decide (2 ≤ b) && m.fN b) = [] ++ ((List.range (t - 2)).filter fun i => m.fN (2 + i)).map fun i : Nat => D.int ((2 + i : Nat) : Int) := by
    have : List.range t = [0, 1] ++ (List.range (t - 2)).map (2 + ·) := by
      conv => lhs; rw [show t = 2 + (t - 2) by omega]
      rw [List.range_add]
      rfl
    rw [this, List.filter_append, List.filter_map, show [0, 1].filter (fun b => decide (2 ≤ b) && m.fN b) = [] by simp]
    unfold ni
    rw [List.nil_append, List.nil_append, List.map_map]
    have e3 : (List.range (t - 2)).filter ((fun b => decide (2 ≤ b) && m.fN b) ∘ fun x => 2 + x) = (List.range (t - 2)).filter fun i => m.fN (2 + i) := List.filter_congr fun i _ => by simp
    rw [e3]
    rfl
  have := h _ _ _ _ can
  unfold tl_ at this
  rw [el, ni_map] at this
  exact this
/-! ### the law's drawn models -/
section
variable {q : D → Prop} {x : DX → Prop}
theorem pick_ok {ds : List D} (h0 : ds ≠ []) (hl : ds.length ≤ 1000) (h : ∀ d ∈ ds, q d) : wp__law_pick [.lst ds] q x := by
  unfold wp__law_pick
  refine ⟨rfl, ?_⟩
  have : 0 < ds.length := List.length_pos_iff.mpr h0
  walk_at "w"
  refine ⟨by omega, sm_of (by omega) (by omega), fun r r0 r1 => ?_⟩
  have lt : r.toNat < ds.length := by omega
  exact ⟨ds[r.toNat], atI_at (k := r.toNat) (by omega) (List.getElem?_eq_getElem lt), h _ (List.getElem_mem lt)⟩
theorem atom_ok (h : ∀ m : BM, m.depth = 0 → m.Wf 60 50 → q m.toD) : wp__law_atom [] q x := by
  unfold wp__law_atom
  refine ⟨rfl, ?_⟩
  walk_at "w"
  refine ⟨by decide, sm_of (by decide) (by decide), fun f f0 f1 => ?_⟩
  walk_at "w"
  refine iteB_by (fun c => ?_) (fun c => ?_)
  · have c1 : f = 0 ∨ f = 1 := by
      have : f < 2 := of_decide_eq_true c
      omega
    obtain ⟨w, hw, w1, w2⟩ : ∃ w : Int, atI [D.int 9, .int 40] f = some (.int w) ∧ 1 ≤ w ∧ w ≤ 40 := by
      rcases c1 with rfl | rfl
      · exact ⟨9, rfl, by decide, by decide⟩
      · exact ⟨40, rfl, by decide, by decide⟩
    walk_at "w"
    refine ⟨by decide, sm_of (by decide) (by decide), fun k k0 k1 => ?_⟩
    walk_at "w"
    refine ⟨⟨by omega, by omega⟩, ?_⟩
    rw [rgD_map]
    refine lc_any (φ := fun i : Nat => D.int (0 + (i : Int))) (fun d => ∃ z : Int, d = .int z ∧ 2 ≤ z ∧ z < 50) (List.range k.toNat) [] (fun i hi kk no hk => ?_) (by simp; omega) (fun d hd => by cases hd) fun ds hl hds => ?_
    · walk_at "w"
      refine ⟨by walk_at "z", ?_⟩
      walk_at "w"
      refine ⟨_, hw, ?_⟩
      walk_at "w"
      refine ⟨by omega, sm_of (by omega) (by omega), fun z z0 z1 => ?_⟩
      walk_at "w"
      exact hk _ ⟨2 + z, rfl, by omega, by omega⟩
    · obtain ⟨l, rfl, hl2⟩ : ∃ l : List Int, ds = l.map .int ∧ ∀ z ∈ l, 2 ≤ z ∧ z < 50 := by
        clear hl
        induction ds with
        | nil => exact ⟨[], rfl, fun z hz => by cases hz⟩
        | cons d ds ih =>
          obtain ⟨z, rfl, a, b⟩ := hds d List.mem_cons_self
          obtain ⟨l, rfl, hl⟩ := ih fun y hy => hds y (List.mem_cons_of_mem _ hy)
          refine ⟨z :: l, rfl, fun y hy => ?_⟩
          rcases List.mem_cons.mp hy with rfl | hy
          · exact ⟨a, b⟩
          · exact hl y hy
      walk_at "w"
      refine ⟨by walk_at "z", h (.of l) rfl ⟨?_, hl2⟩⟩
      simp at hl
      omega
  have c1 : 2 ≤ f := by
    have : ¬ f < 2 := of_decide_eq_false c
    omega
  walk_at "w"
  refine iteB_by (fun c => ?_) (fun c => ?_)
  · walk_at "w"
    refine ⟨by walk_at "z", ?_⟩
    walk_at "w"
    refine pick_ok (by simp) (by decide) fun d hd => ?_
    obtain ⟨p, rfl, p1, p2⟩ : ∃ p : Int, d = .int p ∧ 1 ≤ p ∧ p ∣ 60 := by
      simp only [List.mem_cons, List.not_mem_nil, or_false] at hd
      rcases hd with rfl | rfl | rfl | rfl | rfl | rfl | rfl | rfl <;> exact ⟨_, rfl, by decide, by decide⟩
    walk_at "w"
    refine ⟨by decide, sm_of (by decide) (by decide), fun z z0 z1 => ?_⟩
    walk_at "w"
    exact ⟨by walk_at "z", h (.rest p (z - 15)) rfl ⟨p1, p2⟩⟩
  walk_at "w"
  refine iteB_by (fun c => ?_) (fun c => ?_)
  · walk_at "w"
    refine ⟨by decide, sm_of (by decide) (by decide), fun z z0 z1 => ?_⟩
    walk_at "w"
    exact ⟨by walk_at "z", h (.up (z - 5)) rfl (show z - 5 ≤ ((50 : Nat) : Int) by omega)⟩
  walk_at "w"
  refine ⟨by walk_at "z", ?_⟩
  walk_at "w"
  refine ⟨by walk_at "z", ?_⟩
  walk_at "w"
  refine ⟨by walk_at "z", ?_⟩
  walk_at "w"
  refine pick_ok (by simp) (by walk_at "z") fun d hd => ?_
  simp only [List.mem_cons, List.not_mem_nil, or_false] at hd
  rcases hd with rfl | rfl
  · exact h .none rfl trivial
  · exact h .every rfl trivial
end
theorem model_ok : ∀ (n : Nat) (d : Nat) (z : Int) (q : D → Prop) (x : DX → Prop), z = (d : Int) → d < n → (∀ m : BM, m.depth ≤ d → m.Wf 60 50 → q m.toD) → wp__law_model n [.int z] q x
  | 0, d, z, q, x, _, h, _ => by omega
  | n + 1, d, z, q, x, hz, hd, h => by
    subst hz
    rw [wps__law_model]
    refine ⟨rfl, ?_⟩
    walk_at "w"
    refine ⟨by decide, sm_of (by decide) (by decide), fun f f0 f1 => ?_⟩
    walk_at "w"
    refine iteB_by (fun c => ?_) (fun c => ?_)
    · walk_at "w"
      exact atom_ok fun m m0 mw => h m (by omega) mw
    have c0 : ¬ d = 0 := by
      have : ¬ (d : Int) = 0 := by simpa using c
      omega
    walk_at "w"
    refine iteB_by (fun c => ?_) (fun c => ?_)
    · walk_at "w"
      exact atom_ok fun m m0 mw => h m (by omega) mw
    have c1 : ¬ f < 2 := of_decide_eq_false c
    walk_at "w"
    refine model_ok n (d - 1) ((d : Int) - 1) _ _ (by omega) (by omega) fun u du wu => ?_
    walk_at "w"
    refine iteB_by (fun c => ?_) (fun c => ?_)
    · walk_at "w"
      exact ⟨by walk_at "z", h (.not u) (by simp only [BM.depth]; omega) wu⟩
    have c2 : 3 ≤ f := by
      have : ¬ f = 2 := by simpa using c
      omega
    walk_at "w"
    obtain ⟨g, c, hc, hg⟩ : ∃ (g : Sgn) (c : Nat), atI (Str.ofString "&|-^").cps.toList (f - 3) = some c ∧ (⟨#[c]⟩ : Str) = g.str := by
      have : f = 3 ∨ f = 4 ∨ f = 5 ∨ f = 6 := by omega
      rcases this with rfl | rfl | rfl | rfl
      · exact ⟨.an, 38, by decide +kernel, by decide +kernel⟩
      · exact ⟨.or, 124, by decide +kernel, by decide +kernel⟩
      · exact ⟨.sub, 45, by decide +kernel, by decide +kernel⟩
      · exact ⟨.xor, 94, by decide +kernel, by decide +kernel⟩
    refine ⟨by decide +kernel, c, hc, ?_⟩
    rw [hg]
    walk_at "w"
    refine model_ok n (d - 1) ((d : Int) - 1) _ _ (by omega) (by omega) fun v dv wv => ?_
    walk_at "w"
    exact ⟨by walk_at "z", h (.bin g u v) (by simp only [BM.depth]; omega) ⟨wu, wv⟩⟩

end K31

local macro_rules | `(tactic| walk_at "go") => `(tactic| repeat (first | refine ⟨_, rfl, ?_⟩ | refine ⟨_, _, rfl, rfl, ?_⟩ | refine ⟨rfl, ?_⟩ | refine ⟨_, _, rfl, rfl, ⟨by decide, by decide, by decide⟩, ?_⟩))
local macro_rules | `(tactic| walk_at "w") => `(tactic| conv => whnf)
local macro_rules | `(tactic| walk_at "z") => `(tactic| first | decide | exact Nat.le_of_ble_eq_true rfl | omega | (simp; omega))
local macro_rules | `(tactic| walk_at "i") => `(tactic| repeat (refine ⟨_, rfl, ?_⟩; walk_at "w"))
namespace K31
open PySem PySem.Spec PyProof.Rows L2 Eb
open Per
/-! ### sets by what is in them -/
open Classical in
noncomputable def Eqv (f g : Nat → Bool) : Bool := decide (∀ b, 2 ≤ b → f b = g b)
open Classical in
noncomputable def Sbs (f g : Nat → Bool) : Bool := decide (∀ b, 2 ≤ b → f b = true → g b = true)
open Classical in
noncomputable def Emp (f : Nat → Bool) : Bool := decide (∀ b, 2 ≤ b → f b = false)
theorem eqv_iff {f g : Nat → Bool} : Eqv f g = true ↔ ∀ b, 2 ≤ b → f b = g b := by unfold Eqv; simp only [decide_eq_true_eq]
theorem sbs_iff {f g : Nat → Bool} : Sbs f g = true ↔ ∀ b, 2 ≤ b → f b = true → g b = true := by unfold Sbs; simp only [decide_eq_true_eq]
theorem emp_iff {f : Nat → Bool} : Emp f = true ↔ ∀ b, 2 ≤ b → f b = false := by unfold Emp; simp only [decide_eq_true_eq]
theorem eqv_t {f g : Nat → Bool} (h : ∀ b, 2 ≤ b → f b = g b) : Eqv f g = true := eqv_iff.mpr h
/-- d is a set with f -/
def B (f : Nat → Bool) (d : D) : Prop := ∃ s p rs ls, Can f s p rs ls ∧ EvP f 2000 60 ∧ d = bo s p rs ls
theorem B.congr {f g : Nat → Bool} {d : D} (h : B f d) (e : ∀ b, 2 ≤ b → f b = g b) : B g d := by
  obtain ⟨s, p, rs, ls, c, ev, rfl⟩ := h
  exact ⟨s, p, rs, ls, c.congr e, ev.congr e (by decide), rfl⟩
theorem can_eqv {f g : Nat → Bool} {s p s' p' : Nat} {rs ls rs' ls' : List Nat} (c : Can f s p rs ls) (c' : Can g s' p' rs' ls') : decide (((s, p), rs, ls) = ((s', p'), rs', ls')) = Eqv f g := by
  rw [Bool.eq_iff_iff, decide_eq_true_iff, eqv_iff]
  constructor
  · intro e b hb
    simp only [Prod.mk.injEq] at e
    obtain ⟨⟨rfl, rfl⟩, rfl, rfl⟩ := e
    rw [c.has hb, c'.has hb]
  · intro e
    obtain ⟨rfl, rfl, rfl, rfl⟩ := (c.congr e).uniq c'
    rfl
def tlY (s p : Nat) (rs ls : List Nat) : PyData := .tuple [.int (s : Int), .int (p : Int), .tuple ((rs.map fun n : Nat => (n : Int)).map .int), .tuple ((ls.map fun n : Nat => (n : Int)).map .int)]
theorem map_cast_inj {a b : List Nat} : (a.map (fun n : Nat => (n : Int)) = b.map fun n : Nat => (n : Int)) ↔ a = b := by
  constructor
  · intro h
    induction a generalizing b with
    | nil => cases b with
      | nil => rfl
      | cons _ _ => cases h
    | cons x a ih => cases b with
      | nil => cases h
      | cons y b =>
        simp only [List.map_cons, List.cons.injEq] at h
        rw [ih h.2, Int.ofNat_inj.mp h.1]
  · intro h; rw [h]
theorem eqP_tl {s p s' p' : Nat} {rs ls rs' ls' : List Nat} {q : Bool → Prop} (h : q (decide (((s, p), rs, ls) = ((s', p'), rs', ls')))) : eqP (tl_ s p rs ls) (tl_ s' p' rs' ls') q := by
  unfold eqP
  have py : ∀ (s p : Nat) (rs ls : List Nat), (tl_ s p rs ls).py = some (tlY s p rs ls) := fun s p rs ls => by
    unfold tl_ tlY
    rw [ni_map, ni_map]
    simp only [D.py, D.pys, pys_ints]
  have sh : ∀ (s p : Nat) (rs ls : List Nat), SeqAt.shaped (tlY s p rs ls) = true := fun s p rs ls => by
    unfold SeqAt.shaped tlY
    simp only [PyData.canLay0, PyData.canLayAll0, PyData.depth, PyData.depthAll, lay_ints, depth_ints]
    rfl
  refine ⟨_, _, py .., py .., sh .., sh .., ?_⟩
  have e : PyData.eqv (tlY s p rs ls) (tlY s' p' rs' ls') = decide (((s, p), rs, ls) = ((s', p'), rs', ls')) := by
    unfold tlY
    simp only [PyData.eqv, PyData.eqvAll, eqv_ints]
    rw [Bool.eq_iff_iff]
    simp only [Bool.and_eq_true, decide_eq_true_eq, beq_iff_eq, Prod.mk.injEq, map_cast_inj, Int.ofNat_inj, and_true]
    constructor
    · rintro ⟨a, b, c, d⟩
      exact ⟨⟨a, b⟩, c, d⟩
    · rintro ⟨⟨a, b⟩, c, d⟩
      exact ⟨a, b, c, d⟩
  rw [e]
  exact h
section
variable {f g : Nat → Bool} {d e : D} {q : D → Prop} {x : DX → Prop}
theorem B.le (h : B f d) : ∃ s p rs ls, Can f s p rs ls ∧ EvP f 2000 60 ∧ s ≤ 2000 ∧ p ∣ 60 ∧ d = bo s p rs ls := by
  obtain ⟨s, p, rs, ls, c, ev, rfl⟩ := h
  obtain ⟨a, b⟩ := can_le c (by decide) (by decide) ev
  exact ⟨s, p, rs, ls, c, ev, a, b, rfl⟩
theorem mixed_v {k : Sgn} (h1 : B f d) (h2 : B g e) (h : ∀ z, B (fun b => k.on (f b) (g b)) (.obj 2 z) → q (.obj 2 z)) : wp_mixed [.str k.str, d, e] q x := by
  obtain ⟨s, p, rs, ls, c, ev, sl, pl, rfl⟩ := h1.le
  obtain ⟨s', p', rs', ls', c', ev', sl', pl', rfl⟩ := h2.le
  refine mixed_ok c c' (by omega) (by omega) (lcm_of (by decide) pl pl' (by decide)) fun s2 p2 rs2 ls2 c2 => h _ ⟨s2, p2, rs2, ls2, c2, fun b hb => ?_, rfl⟩
  show k.on (f (b + 60)) (g (b + 60)) = k.on (f b) (g b)
  rw [ev b hb, ev' b hb]
theorem every_B : B (fun _ => true) (bo 2 1 [0] []) := ⟨2, 1, [0], [], ⟨by decide, by decide, fun _ _ => rfl, fun s' p' hp _ => hp, .inl rfl, rfl, rfl⟩, fun _ _ => rfl, rfl⟩
theorem none_B : B (fun _ => false) (bo 2 1 [] []) := ⟨2, 1, [], [], ⟨by decide, by decide, fun _ _ => rfl, fun s' p' hp _ => hp, .inl rfl, rfl, rfl⟩, fun _ _ => rfl, rfl⟩
theorem and_v (h1 : B f d) (h2 : B g e) (h : ∀ z, B (fun b => f b && g b) (.obj 2 z) → q (.obj 2 z)) : wp_Bases_and [d, e] q x := by
  unfold wp_Bases_and
  refine ⟨rfl, ?_⟩
  walk_at "w"
  exact mixed_v (k := .an) h1 h2 h
theorem or_v (h1 : B f d) (h2 : B g e) (h : ∀ z, B (fun b => f b || g b) (.obj 2 z) → q (.obj 2 z)) : wp_Bases_or [d, e] q x := by
  unfold wp_Bases_or
  refine ⟨rfl, ?_⟩
  walk_at "w"
  exact mixed_v (k := .or) h1 h2 h
theorem sub_v (h1 : B f d) (h2 : B g e) (h : ∀ z, B (fun b => f b && !g b) (.obj 2 z) → q (.obj 2 z)) : wp_Bases_sub [d, e] q x := by
  unfold wp_Bases_sub
  refine ⟨rfl, ?_⟩
  walk_at "w"
  exact mixed_v (k := .sub) h1 h2 h
theorem xor_v (h1 : B f d) (h2 : B g e) (h : ∀ z, B (fun b => f b != g b) (.obj 2 z) → q (.obj 2 z)) : wp_Bases_xor [d, e] q x := by
  unfold wp_Bases_xor
  refine ⟨rfl, ?_⟩
  walk_at "w"
  exact mixed_v (k := .xor) h1 h2 h
theorem inv_v (h1 : B f d) (h : ∀ z, B (fun b => !f b) (.obj 2 z) → q (.obj 2 z)) : wp_Bases_invert [d] q x := by
  unfold wp_Bases_invert
  refine ⟨rfl, ?_⟩
  walk_at "w"
  refine every_ok ?_
  walk_at "w"
  exact mixed_v (k := .sub) every_B h1 fun z hz => h z (hz.congr fun b _ => by show (true && !f b) = !f b; simp)
theorem can_emp {s p : Nat} {rs ls : List Nat} (c : Can f s p rs ls) : (((ls.length : Int) + (rs.length : Int)) == 0) = Emp f := by
  rw [Bool.eq_iff_iff, beq_iff_eq, emp_iff]
  constructor
  · intro e b hb
    have l0 : ls = [] := List.length_eq_zero_iff.mp (by omega)
    have r0 : rs = [] := List.length_eq_zero_iff.mp (by omega)
    rw [c.has hb, l0, r0]
    simp
  · intro e
    have l0 : ls = [] := by
      rw [c.ls_, List.filter_eq_nil_iff]
      intro b _ z
      rw [Bool.and_eq_true, decide_eq_true_iff] at z
      rw [e b z.1] at z
      cases z.2
    have r0 : rs = [] := by
      rw [c.rs_, List.filter_eq_nil_iff]
      intro r _ z
      have := Nat.mul_le_mul c.p1 c.s2
      rw [e _ (by omega)] at z
      cases z
    rw [l0, r0]
    rfl
theorem eq_v (h1 : B f d) (h2 : B g e) (h : q (.bl (Eqv f g))) : wp_Bases_eq [d, e] q x := by
  obtain ⟨s, p, rs, ls, c, ev, rfl⟩ := h1
  obtain ⟨s', p', rs', ls', c', ev', rfl⟩ := h2
  unfold wp_Bases_eq
  refine ⟨rfl, ?_⟩
  walk_at "w"
  refine ⟨by walk_at "z", ?_⟩
  walk_at "w"
  refine ⟨by walk_at "z", ?_⟩
  walk_at "w"
  refine eqP_tl ?_
  rw [can_eqv c c']
  exact h
theorem emp_sub : Emp (fun b => f b && !g b) = Sbs f g := by
  rw [Bool.eq_iff_iff, emp_iff, sbs_iff]
  constructor
  · intro h b hb fb
    have := h b hb
    simp only [fb, Bool.true_and, Bool.not_eq_false'] at this
    exact this
  · intro h b hb
    have := h b hb
    cases fb : f b with
    | false => simp
    | true => simp [this fb]
theorem B.obj (h : B f d) : ∃ fs, d = .obj 2 fs := by
  obtain ⟨s, p, rs, ls, _, _, rfl⟩ := h
  exact ⟨_, rfl⟩
theorem set_v {m : BM} {n : Nat} (hd : m.depth < n) (hw : m.Wf 60 50) (h : ∀ z, B m.fN (.obj 2 z) → q (.obj 2 z)) : wp__law_set_of n [m.toD] q x :=
  set_of_ok (N := 60) (S := 50) (by decide) (by decide) (by decide) (by decide) n m _ _ hd hw fun s p rs ls c => h _ ⟨s, p, rs, ls, c, fun b hb => wf_ev m hw b (by omega), rfl⟩
end
section
variable {f g : Nat → Bool} {d e : D} {q : D → Prop} {x : DX → Prop}
theorem eq_t (h1 : B f d) (h2 : B g e) (he : ∀ b, f b = g b) (h : q (.bl true)) : wp_Bases_eq [d, e] q x := eq_v h1 h2 (by rw [eqv_t fun b _ => he b]; exact h)
theorem eqv_or : Eqv (fun b => f b || g b) g = Sbs f g := by
  rw [Bool.eq_iff_iff, eqv_iff, sbs_iff]
  constructor
  · intro h b hb fb
    have := h b hb
    rw [fb] at this
    simpa using this.symm
  · intro h b hb
    have := h b hb
    cases fb : f b with
    | false => simp
    | true => simp [this fb]
theorem eqv_and : Eqv (fun b => f b && g b) f = Sbs f g := by
  rw [Bool.eq_iff_iff, eqv_iff, sbs_iff]
  constructor
  · intro h b hb fb
    have := h b hb
    rw [fb] at this
    simpa using this
  · intro h b hb
    have := h b hb
    cases fb : f b with
    | false => simp
    | true => simp [this fb]
theorem sbs_inv : Sbs (fun b => !g b) (fun b => !f b) = Sbs f g := by
  rw [Bool.eq_iff_iff, sbs_iff, sbs_iff]
  constructor
  · intro h b hb fb
    have := h b hb
    cases gb : g b with
    | true => rfl
    | false => simp [gb, fb] at this
  · intro h b hb gb
    have := h b hb
    cases fb : f b with
    | false => rfl
    | true => simp [this fb] at gb
theorem sbs_trans {k : Nat → Bool} (h1 : Sbs f g = true) (h2 : Sbs g k = true) : Sbs f k = true := sbs_iff.mpr fun b hb fb => sbs_iff.mp h2 b hb (sbs_iff.mp h1 b hb fb)
end

end K31

local macro_rules | `(tactic| walk_at "go") => `(tactic| repeat (first | refine ⟨_, rfl, ?_⟩ | refine ⟨_, _, rfl, rfl, ?_⟩ | refine ⟨rfl, ?_⟩ | refine ⟨_, _, rfl, rfl, ⟨by decide, by decide, by decide⟩, ?_⟩))
local macro_rules | `(tactic| walk_at "w") => `(tactic| conv => whnf)
local macro_rules | `(tactic| walk_at "z") => `(tactic| first | decide | exact Nat.le_of_ble_eq_true rfl | omega | (simp; omega))
local macro_rules | `(tactic| walk_at "i") => `(tactic| repeat (refine ⟨_, rfl, ?_⟩; walk_at "w"))
namespace K31
open PySem PySem.Spec PyProof.Rows L2 Eb
theorem show_int {i : Int} (h : Sm i) : (PyData.int i).showable = true := by
  have := show_ints [i] (fun n hn => by rw [List.mem_singleton.mp hn]; exact h)
  simpa [PyData.showableAll] using this
theorem repr_int {i : Int} {q : D → Prop} {x : DX → Prop} (h : Sm i) (k : q (.str (PyData.shown (.int i)))) : reprD [.int i] q x := by
  unfold reprD
  exact ⟨.int i, rfl, show_int h, by show 1921 ≤ 16000000; decide, by simp [PyData.depth], k⟩
theorem repr_non {q : D → Prop} {x : DX → Prop} (k : q (.str (PyData.shown .none))) : reprD [.non] q x := by
  unfold reprD
  exact ⟨.none, rfl, by simp [PyData.showable], by show 8 ≤ 16000000; decide, by simp [PyData.depth], k⟩
theorem repr_bl {b : Bool} {q : D → Prop} {x : DX → Prop} (h : q (.str (PyData.shown (.bool b)))) : reprD [.bl b] q x := by
  unfold reprD
  exact ⟨.bool b, rfl, by simp [PyData.showable], by show 8 ≤ 16000000; decide, by simp [PyData.depth], h⟩
theorem repr_tl {s p : Nat} {rs ls : List Nat} {q : D → Prop} {x : DX → Prop} (hs : s ≤ 10 ^ 60) (hp : p ≤ 10 ^ 60) (hr : ∀ r ∈ rs, r ≤ 10 ^ 60) (hl : ∀ r ∈ ls, r ≤ 10 ^ 60) (n : rs.length + ls.length ≤ 8000) (h : q (.str (PyData.shown (tlY s p rs ls)))) : reprD [tl_ s p rs ls] q x := by
  have si : ∀ l : List Nat, (∀ r ∈ l, r ≤ 10 ^ 60) → PyData.showableAll ((l.map fun n : Nat => (n : Int)).map PyData.int) = true := fun l hl => show_ints _ fun n hn => by
    obtain ⟨r, hr, rfl⟩ := List.mem_map.mp hn
    exact smN (hl r hr)
  unfold reprD
  refine ⟨tlY s p rs ls, ?_, ?_, ?_, ?_, h⟩
  · unfold tl_ tlY
    simp only [D.py, D.pys, ni_map, pys_ints]
  · unfold tlY
    have a := show_int (smN hs)
    have b := show_int (smN hp)
    have c := si rs hr
    have d := si ls hl
    simp only [PyData.showable, PyData.showableAll, Bool.and_eq_true] at *
    exact ⟨a, b, c, d, trivial⟩
  · show (1921 + 2 + (1921 + 2 + ((bnd.bndAll ((rs.map fun n : Nat => (n : Int)).map PyData.int) + 3) + 2 + ((bnd.bndAll ((ls.map fun n : Nat => (n : Int)).map PyData.int) + 3) + 2 + 0)))) + 3 ≤ 16000000
    rw [bnd_ints, bnd_ints, List.length_map, List.length_map]
    omega
  · unfold tlY
    simp only [PyData.depth, PyData.depthAll, depth_ints]
    decide

end K31

local macro_rules | `(tactic| walk_at "go") => `(tactic| repeat (first | refine ⟨_, rfl, ?_⟩ | refine ⟨_, _, rfl, rfl, ?_⟩ | refine ⟨rfl, ?_⟩ | refine ⟨_, _, rfl, rfl, ⟨by decide, by decide, by decide⟩, ?_⟩))
local macro_rules | `(tactic| walk_at "w") => `(tactic| conv => whnf)
local macro_rules | `(tactic| walk_at "z") => `(tactic| first | decide | exact Nat.le_of_ble_eq_true rfl | omega | (simp; omega))
local macro_rules | `(tactic| walk_at "i") => `(tactic| repeat (refine ⟨_, rfl, ?_⟩; walk_at "w"))
namespace K31
open PySem PySem.Spec PyProof.Rows L2 Eb
open Per TT
theorem tx34 : ("from " : Str) = tx [102, 114, 111, 109, 32] ∧ (": " : Str) = tx [58, 32] ∧ (" of " : Str) = tx [32, 111, 102, 32] ∧ (", " : Str) = tx [44, 32] ∧ (" " : Str) = tx [32] := by decide +kernel
/-- the numbers of a list, with blanks between -/
def nums (l : List Nat) : List Nat := joinL [32] (l.map dg)
def setText (s p : Nat) (rs ls : List Nat) : List (List Nat) := (if ls = [] then [] else [nums ls]) ++ if rs = [] then [] else [[102, 114, 111, 109, 32] ++ dg s ++ [58, 32] ++ nums rs ++ [32, 111, 102, 32] ++ dg p]
def Small (l : List Nat) : Prop := l.length ≤ 1000 ∧ ∀ n ∈ l, n < 10 ^ 20
theorem nums_len {l : List Nat} (h : Small l) : (nums l).length ≤ 21 * l.length := by
  replace h := h.2
  unfold nums
  induction l with
  | nil => exact Nat.zero_le _
  | cons n l ih =>
    have h1 := ih fun y hy => h y (List.mem_cons_of_mem _ hy)
    have h2 := dg_len (by decide) (h n List.mem_cons_self)
    cases l with
    | nil =>
      show (dg n).length ≤ 21 * 1
      omega
    | cons y l =>
      show (dg n ++ [32] ++ joinL [32] ((y :: l).map dg)).length ≤ 21 * ((y :: l).length + 1)
      rw [List.length_append, List.length_append, List.length_singleton]
      omega
def Lo (l : List Nat) : Prop := ∀ c ∈ l, c < 200
theorem lo_app {a b : List Nat} (ha : Lo a) (hb : Lo b) : Lo (a ++ b) := fun c hc => (List.mem_append.mp hc).elim (ha c) (hb c)
theorem lo_dg (n : Nat) : Lo (dg n) := fun c hc => by have := dg_D n c hc; unfold isD at this; omega
theorem lo_nums (l : List Nat) : Lo (nums l) := by
  unfold nums
  induction l with
  | nil => intro c hc; cases hc
  | cons n l ih =>
    cases l with
    | nil => exact lo_dg n
    | cons y l => exact lo_app (lo_app (lo_dg n) (fun c hc => by rw [List.mem_singleton.mp hc]; decide)) ih
theorem lo_ok {a : List Nat} (h : Lo a) : PyData.strOk (tx a) = true := by
  unfold PyData.strOk tx
  rw [Array.all_eq_true']
  intro c hc
  have := h c (by simpa using hc)
  exact decide_eq_true (by omega)
theorem lo_set (s p : Nat) (rs ls : List Nat) : ∀ t ∈ setText s p rs ls, Lo t := fun t ht => by
  unfold setText at ht
  rcases List.mem_append.mp ht with z | z
  · split at z
    · cases z
    · rw [List.mem_singleton.mp z]; exact lo_nums _
  · split at z
    · cases z
    · rw [List.mem_singleton.mp z]
      exact lo_app (lo_app (lo_app (lo_app (lo_app (by decide +kernel : ∀ c ∈ [102, 114, 111, 109, 32], c < 200) (lo_dg _)) (by decide +kernel : ∀ c ∈ [58, 32], c < 200)) (lo_nums _)) (by decide +kernel : ∀ c ∈ [32, 111, 102, 32], c < 200)) (lo_dg _)
/-- ' '.join([str(n) for n in l]) -/
theorem join_nums {l : List Nat} (h : Small l) : ((l.map fun n => tx (dg n)).map (·.length)).sum + (l.map fun n => tx (dg n)).length * (tx [32]).length ≤ 100000 ∧ Txt.join (tx [32]) (l.map fun n => tx (dg n)) = tx (nums l) := by
  constructor
  · rw [tx_len, List.length_map]
    have : ((l.map fun n => tx (dg n)).map (·.length)).sum ≤ 20 * l.length := by
      replace h := h.2
      induction l with
      | nil => exact Nat.zero_le _
      | cons n l ih =>
        have h1 := ih fun y hy => h y (List.mem_cons_of_mem _ hy)
        have h2 := dg_len (by decide) (h n List.mem_cons_self)
        rw [List.map_cons, List.map_cons, List.sum_cons, List.length_cons, tx_len]
        omega
    have := h.1
    simp only [List.length_cons, List.length_nil]
    omega
  · have e : (l.map fun n => tx (dg n)) = (l.map dg).map tx := by rw [List.map_map]; rfl
    rw [e, tx_join]
    rfl
theorem str_nat {n : Nat} (h : n < 10 ^ 20) : ((n : Int)).natAbs.log2 < 1920 := log_of (smN (Nat.le_trans (Nat.le_of_lt h) (by decide +kernel)))
theorem Bases_str_ok {s p : Nat} {rs ls : List Nat} {q : D → Prop} {x : DX → Prop} (hr : Small rs) (hl : Small ls) (hs : s < 10 ^ 20) (hp : p < 10 ^ 20) (h : q (.str (if setText s p rs ls = [] then "none" else tx (joinL [44, 32] (setText s p rs ls))))) : wp_Bases_str [bo s p rs ls] q x := by
  obtain ⟨lf, lc, lo, lk, lb⟩ := tx34
  unfold wp_Bases_str
  refine ⟨rfl, ?_⟩
  have nl := nums_len hl
  have nr := nums_len hr
  have nl1 := hl.1
  have nr1 := hr.1
  refine seq2 (fun env => env = [.va (bo s p rs ls), .ow ((if ls = [] then [] else [nums ls]).map fun t => D.str (tx t)), .un, .un, .un]) (fun e' _ _ _ _ hnx => ?_) ?_
  · walk_at "w"
    refine ⟨by walk_at "z", ?_⟩
    walk_at "w"
    refine ⟨by walk_at "z", ?_⟩
    walk_at "w"
    rw [ni_len]
    by_cases e0 : ls = []
    · subst e0
      walk_at "w"
      exact hnx _ rfl
    · have pos := List.length_pos_iff.mpr e0
      rw [if_neg e0] at hnx
      refine iteB_t (decide_eq_true (by omega)) ?_
      walk_at "w"
      refine lc_map (φ := fun n : Nat => D.int (n : Int)) (fun n => .str (tx (dg n))) ls (fun n hn k no hk => ?_) (by omega) ?_
      · walk_at "w"
        refine ⟨str_nat (hl.2 n hn), ?_⟩
        rw [tx_num]
        exact hk
      walk_at "w"
      rw [lb]
      obtain ⟨j1, j2⟩ := join_nums hl
      refine ⟨ls.map fun n => tx (dg n), .inl (by rw [List.map_map]; rfl), j1, ?_⟩
      rw [j2]
      walk_at "w"
      refine ⟨by walk_at "z", hnx _ rfl⟩
  rintro _ rfl
  generalize hA : (if ls = [] then [] else [nums ls]) = A at *
  have Al : A.length ≤ 1 ∧ ∀ t ∈ A, t.length ≤ 21000 := by
    rw [← hA]
    split
    · exact ⟨by simp, fun t ht => by cases ht⟩
    · refine ⟨by simp, fun t ht => ?_⟩
      rw [List.mem_singleton.mp ht]
      omega
  unfold setText at h
  rw [hA] at h
  have ls_ := dg_len (by decide) hs
  have lp_ := dg_len (by decide) hp
  refine seq_by (fun env => ∃ v2 : Sl, env = [.va (bo s p rs ls), .ow ((A ++ if rs = [] then [] else [[102, 114, 111, 109, 32] ++ dg s ++ [58, 32] ++ nums rs ++ [32, 111, 102, 32] ++ dg p]).map fun t => D.str (tx t)), v2, .un, .un]) (fun e' _ _ _ _ hnx => ?_) ?_
  · walk_at "w"
    rw [ni_len]
    by_cases e0 : rs = []
    · subst e0
      walk_at "w"
      refine hnx _ ⟨.un, ?_⟩
      rw [if_pos rfl, List.append_nil]
    · have pos := List.length_pos_iff.mpr e0
      refine iteB_t (decide_eq_true (by omega)) ?_
      walk_at "w"
      refine lc_map (φ := fun n : Nat => D.int (n : Int)) (fun n => .str (tx (dg n))) rs (fun n hn k no hk => ?_) (by omega) ?_
      · walk_at "w"
        refine ⟨str_nat (hr.2 n hn), ?_⟩
        rw [tx_num]
        exact hk
      walk_at "w"
      rw [lb]
      obtain ⟨j1, j2⟩ := join_nums hr
      refine ⟨rs.map fun n => tx (dg n), .inl (by rw [List.map_map]; rfl), j1, ?_⟩
      rw [j2]
      walk_at "w"
      rw [lf]
      refine ⟨by rw [show Str.empty = tx [] from rfl, tx_app, tx_len]; simp, ?_⟩
      walk_at "w"
      refine ⟨str_nat hs, ?_⟩
      walk_at "w"
      rw [show Str.empty = tx [] from rfl, tx_num, tx_app, tx_app]
      refine ⟨by rw [tx_len]; simp; omega, ?_⟩
      walk_at "w"
      rw [lc, tx_app]
      refine ⟨by rw [tx_len]; simp; omega, ?_⟩
      walk_at "w"
      refine ⟨by rw [tx_len]; omega, ?_⟩
      walk_at "w"
      rw [tx_app]
      refine ⟨by rw [tx_len]; simp; omega, ?_⟩
      walk_at "w"
      rw [lo, tx_app]
      refine ⟨by rw [tx_len]; simp; omega, ?_⟩
      walk_at "w"
      refine ⟨str_nat hp, ?_⟩
      walk_at "w"
      rw [tx_num, tx_app]
      refine ⟨by rw [tx_len]; simp; omega, ?_⟩
      walk_at "w"
      refine ⟨by rw [List.length_map]; omega, hnx _ ⟨.va (.str (tx (nums rs))), ?_⟩⟩
      rw [if_neg e0, List.map_append]
      rfl
  rintro _ ⟨v2, rfl⟩
  generalize hB : (A ++ if rs = [] then [] else [[102, 114, 111, 109, 32] ++ dg s ++ [58, 32] ++ nums rs ++ [32, 111, 102, 32] ++ dg p]) = B at *
  have Bl : B.length ≤ 2 ∧ ∀ t ∈ B, t.length ≤ 22000 := by
    rw [← hB]
    split
    · rw [List.append_nil]
      exact ⟨by omega, fun t ht => by have := Al.2 t ht; omega⟩
    · refine ⟨by simp; omega, fun t ht => ?_⟩
      rcases List.mem_append.mp ht with z | z
      · have := Al.2 t z; omega
      · rw [List.mem_singleton.mp z]
        simp
        omega
  walk_at "w"
  rw [List.length_map]
  cases B with
  | nil =>
    walk_at "w"
    exact h
  | cons y l =>
    walk_at "w"
    rw [if_neg (by simp)] at h
    refine ⟨(y :: l).map tx, .inl (by rw [List.map_map]; rfl), ?_, ?_⟩
    · rw [lk, tx_len, List.length_map]
      have sm : (((y :: l).map tx).map (·.length)).sum ≤ 22000 * (y :: l).length := by
        have := Bl.2
        generalize y :: l = B at this
        induction B with
        | nil => exact Nat.zero_le _
        | cons z B ih =>
          have a := ih fun t ht => this t (List.mem_cons_of_mem _ ht)
          have b := this z List.mem_cons_self
          rw [List.map_cons, List.map_cons, List.sum_cons, List.length_cons, tx_len]
          omega
      have := Bl.1
      simp only [List.length_cons, List.length_nil] at *
      omega
    · rw [lk, tx_join]
      exact h
theorem can_small {m : BM} (hw : m.Wf 60 50) {s p : Nat} {rs ls : List Nat} (h : Can m.fN s p rs ls) : Small rs ∧ Small ls ∧ s < 10 ^ 20 ∧ p < 10 ^ 20 := by
  obtain ⟨a, b⟩ := can_le h (by decide) (by decide) (wf_ev m hw)
  have pl := Nat.le_of_dvd (by decide) b
  refine ⟨⟨?_, fun n hn => ?_⟩, ⟨?_, fun n hn => ?_⟩, by omega, by omega⟩
  · rw [h.rs_]
    have := List.length_filter_le (fun r => m.fN (r + p * s)) (List.range p)
    rw [List.length_range] at this
    omega
  · rw [h.rs_] at hn
    have := List.mem_range.mp (List.mem_filter.mp hn).1
    omega
  · rw [h.ls_]
    have := List.length_filter_le (fun b => decide (2 ≤ b) && m.fN b) (List.range s)
    rw [List.length_range] at this
    omega
  · rw [h.ls_] at hn
    have := List.mem_range.mp (List.mem_filter.mp hn).1
    omega

end K31

local macro_rules | `(tactic| walk_at "go") => `(tactic| repeat (first | refine ⟨_, rfl, ?_⟩ | refine ⟨_, _, rfl, rfl, ?_⟩ | refine ⟨rfl, ?_⟩ | refine ⟨_, _, rfl, rfl, ⟨by decide, by decide, by decide⟩, ?_⟩))
local macro_rules | `(tactic| walk_at "w") => `(tactic| conv => whnf)
local macro_rules | `(tactic| walk_at "z") => `(tactic| first | decide | exact Nat.le_of_ble_eq_true rfl | omega | (simp; omega))
local macro_rules | `(tactic| walk_at "i") => `(tactic| repeat (refine ⟨_, rfl, ?_⟩; walk_at "w"))
namespace K31
open PySem PySem.Spec PyProof.Rows L2 Eb
open Per
section
variable {f g : Nat → Bool} {d : D} {q : D → Prop} {x : DX → Prop} {s p : Nat} {rs ls : List Nat}
theorem can_few {S N : Nat} (c : Can f s p rs ls) (hN : 1 ≤ N) (hS : 2 ≤ S) (ev : EvP f S N) : s ≤ S ∧ p ≤ N ∧ (∀ r ∈ rs, r < p) ∧ (∀ r ∈ ls, r < s) ∧ rs.length ≤ p ∧ ls.length ≤ s := by
  obtain ⟨sl, pl⟩ := can_le c hN hS ev
  refine ⟨sl, Nat.le_of_dvd hN pl, fun r hr => ?_, fun r hr => ?_, ?_, ?_⟩
  · rw [c.rs_, List.mem_filter, List.mem_range] at hr
    exact hr.1
  · rw [c.ls_, List.mem_filter, List.mem_range] at hr
    exact hr.1
  · have l2 := List.length_filter_le (fun r => f (r + p * s)) (List.range p)
    rw [← c.rs_, List.length_range] at l2
    exact l2
  · have l2 := List.length_filter_le (fun b => decide (2 ≤ b) && f b) (List.range s)
    rw [← c.ls_, List.length_range] at l2
    exact l2
theorem is_v {m : BM} {N S : Nat} (hN : 1 ≤ N) (hN2 : N ≤ 20000) (hS : 2 ≤ S) (hS2 : S ≤ 20000) (hd : m.depth < 5) (hw : m.Wf N S) (c : Can m.fN s p rs ls) (n : rs.length + ls.length ≤ 8000) (h : q (.bl true)) : wp__law_is [bo s p rs ls, m.toD] q x := by
  obtain ⟨sl, pn, b1, b2, n1, n2⟩ := can_few c hN hS (wf_ev m hw)
  unfold wp__law_is
  refine ⟨rfl, ?_⟩
  walk_at "w"
  refine ⟨by walk_at "z", ?_⟩
  walk_at "w"
  refine repr_tl (by omega) (by omega) (fun r hr => by have := b1 r hr; omega) (fun r hr => by have := b2 r hr; omega) (by omega) ?_
  walk_at "w"
  refine told_ok (N := N) (S := S) hN (by omega) hS hS2 hd hw fun s' p' rs' ls' c' => ?_
  obtain ⟨rfl, rfl, rfl, rfl⟩ := c.uniq c'
  walk_at "w"
  refine repr_tl (by omega) (by omega) (fun r hr => by have := b1 r hr; omega) (fun r hr => by have := b2 r hr; omega) (by omega) ?_
  walk_at "w"
  rw [beq_self_eq_true]
  exact h
/-- for sets of the plain laws: periods divide 60, starts below 50 -/
theorem is_p {m : BM} (hd : m.depth < 5) (hw : m.Wf 60 50) (hB : B m.fN d) (h : q (.bl true)) : wp__law_is [d, m.toD] q x := by
  obtain ⟨s, p, rs, ls, c, ev, rfl⟩ := hB
  obtain ⟨sl, pn, _, _, n1, n2⟩ := can_few c (by decide) (by decide) ev
  exact is_v (N := 60) (S := 50) (by decide) (by decide) (by decide) (by decide) hd hw c (by omega) h
theorem eq_no (hd : d = .non ∨ (∃ z, d = .str z) ∨ ∃ z, d = .tup z) (h : q (.bl false)) : wp_Bases_eq [bo s p rs ls, d] q x := by
  unfold wp_Bases_eq
  refine ⟨rfl, ?_⟩
  rcases hd with rfl | ⟨z, rfl⟩ | ⟨z, rfl⟩ <;> (walk_at "w"; exact h)
/-! counting the bases with a rest -/
theorem cnt_rest {q r : Int} (q1 : 1 ≤ q) (a : Nat) : cntI (BM.rest q r).fN a q.toNat ≤ 1 := by
  show ((List.range q.toNat).filter _).length ≤ 1
  generalize hl : ((List.range q.toNat).filter fun i => (BM.rest q r).fN (a + i)) = l
  have nd : l.Nodup := by rw [← hl]; exact List.Pairwise.filter _ List.nodup_range
  have mem : ∀ i ∈ l, (i : Int) < q ∧ (((a + i : Nat) : Int) - r) % q = 0 := fun i hi => by
    rw [← hl, List.mem_filter, List.mem_range] at hi
    exact ⟨by omega, beq_iff_eq.mp hi.2⟩
  rcases l with _ | ⟨i, _ | ⟨j, l⟩⟩
  · simp
  · simp
  · exfalso
    obtain ⟨i1, i2⟩ := mem i (by simp)
    obtain ⟨j1, j2⟩ := mem j (by simp)
    have hne : i ≠ j := fun e => by
      subst e
      simp at nd
    have d1 := Int.dvd_of_emod_eq_zero i2
    have d2 := Int.dvd_of_emod_eq_zero j2
    have d3 := Int.dvd_sub d1 d2
    have e3 : ((a + i : Nat) : Int) - r - (((a + j : Nat) : Int) - r) = (i : Int) - (j : Int) := by omega
    rw [e3] at d3
    obtain ⟨k, hk⟩ := d3
    have : k = 0 := by
      rcases Int.lt_trichotomy k 0 with c | c | c
      · have := Int.mul_le_mul_of_nonneg_left (show k ≤ -1 by omega) (show 0 ≤ q by omega)
        omega
      · exact c
      · have := Int.mul_le_mul_of_nonneg_left (show 1 ≤ k by omega) (show 0 ≤ q by omega)
        omega
    subst this
    omega
theorem cnt_rests {k r : Int} (k1 : 97 ≤ k) (a n : Nat) (hn : n ≤ 10000) : cntI (BM.rest k r).fN a n ≤ 105 := by
  have ev : EvP (BM.rest k r).fN a k.toNat := fun b _ => by
    show ((((b + k.toNat : Nat) : Int) - r) % k == 0) = (((b : Int) - r) % k == 0)
    rw [show ((b + k.toNat : Nat) : Int) - r = ((b : Int) - r) + k by omega, Int.add_emod_right]
  have h1 := cntI_rounds ev (n / k.toNat) (n % k.toNat)
  rw [Nat.mul_comm (n / k.toNat), Nat.div_add_mod] at h1
  have h2 := cnt_rest (q := k) (r := r) (by omega) a
  have h3 : cntI (BM.rest k r).fN a (n % k.toNat) ≤ 1 := by
    have h4 := cntI_add (BM.rest k r).fN a (n % k.toNat) (k.toNat - n % k.toNat)
    have := Nat.mod_lt n (show 0 < k.toNat by omega)
    rw [show n % k.toNat + (k.toNat - n % k.toNat) = k.toNat by omega] at h4
    omega
  have h5 : n / k.toNat ≤ 103 := by
    have : n / k.toNat ≤ n / 97 := Nat.div_le_div_left (by omega) (by decide)
    omega
  have h6 := Nat.mul_le_mul h5 h2
  rw [h1]
  omega
theorem cnt_or (a n : Nat) : cntI (fun b => f b || g b) a n ≤ cntI f a n + cntI g a n := by
  show ((List.range n).filter _).length ≤ ((List.range n).filter _).length + ((List.range n).filter _).length
  induction List.range n with
  | nil => simp
  | cons i l ih =>
    cases hf : f (a + i) <;> cases hg : g (a + i) <;> simp [List.filter_cons, hf, hg] at ih ⊢ <;> omega
theorem cnt_le {a n : Nat} (h : ∀ b, f b = true → g b = true) : cntI f a n ≤ cntI g a n := by
  show ((List.range n).filter _).length ≤ ((List.range n).filter _).length
  induction List.range n with
  | nil => simp
  | cons i l ih =>
    cases hf : f (a + i) with
    | true =>
      have := h _ hf
      simp [List.filter_cons, hf, this] at ih ⊢
      omega
    | false =>
      cases hg : g (a + i) <;> simp [List.filter_cons, hf, hg] at ih ⊢ <;> omega
/-- two great sets -/
structure Great (m1 m2 : BM) (N S : Nat) : Prop where
  d1 : m1.depth ≤ 1
  d2 : m2.depth ≤ 1
  w1 : m1.Wf N S
  w2 : m2.Wf N S
  n1 : 1 ≤ N
  n2 : N ≤ 10000
  s1 : 2 ≤ S
  s2 : S ≤ 5000
  few : ∀ (g : Sgn) (s p : Nat) (rs ls : List Nat), Can (BM.bin g m1 m2).fN s p rs ls → rs.length + ls.length ≤ 8000
theorem few_of {m1 m2 : BM} {N S : Nat} (w1 : m1.Wf N S) (w2 : m2.Wf N S) (n1 : 1 ≤ N) (s1 : 2 ≤ S) (h : N + S ≤ 8000) : ∀ (g : Sgn) (s p : Nat) (rs ls : List Nat), Can (BM.bin g m1 m2).fN s p rs ls → rs.length + ls.length ≤ 8000 := fun g s p rs ls c => by
  obtain ⟨a, b, _, _, e, f⟩ := can_few c n1 s1 (wf_ev (.bin g m1 m2) ⟨w1, w2⟩)
  omega
theorem on_or (g : Sgn) (a b : Bool) (h : g.on a b = true) : (a || b) = true := by
  cases g <;> cases a <;> cases b <;> first | rfl | exact h
theorem few_rest {p1 r1 p2 r2 : Int} {N S : Nat} (h1 : 97 ≤ p1) (h2 : 97 ≤ p2) (w1 : (BM.rest p1 r1).Wf N S) (w2 : (BM.rest p2 r2).Wf N S) (n1 : 1 ≤ N) (n2 : N ≤ 10000) (s1 : 2 ≤ S) (s2 : S ≤ 5000) : ∀ (g : Sgn) (s p : Nat) (rs ls : List Nat), Can (BM.bin g (.rest p1 r1) (.rest p2 r2)).fN s p rs ls → rs.length + ls.length ≤ 8000 := fun g s p rs ls c => by
  obtain ⟨a, b, _, _, e, f⟩ := can_few c n1 s1 (wf_ev (.bin g (.rest p1 r1) (.rest p2 r2)) ⟨w1, w2⟩)
  have h3 := c.round
  have h4 : cntI (BM.bin g (.rest p1 r1) (.rest p2 r2)).fN s p ≤ cntI (fun b => (BM.rest p1 r1).fN b || (BM.rest p2 r2).fN b) s p := cnt_le fun b hb => on_or g _ _ hb
  have h5 := cnt_or (f := (BM.rest p1 r1).fN) (g := (BM.rest p2 r2).fN) s p
  have h6 := cnt_rests (k := p1) (r := r1) h1 s p (by omega)
  have h7 := cnt_rests (k := p2) (r := r2) h2 s p (by omega)
  omega
theorem great_v (h : ∀ m1 m2 N S, Great m1 m2 N S → q (.tup [m1.toD, m2.toD])) : wp__law_great [] q x := by
  unfold wp__law_great
  refine ⟨rfl, ?_⟩
  walk_at "w"
  refine ⟨by decide, sm_of (by decide) (by decide), fun f f0 f1 => ?_⟩
  walk_at "w"
  refine iteB_by (fun c => ?_) (fun c => ?_)
  · walk_at "w"
    refine ⟨by decide, sm_of (by decide) (by decide), fun p p0 p1 => ?_⟩
    walk_at "w"
    refine ⟨by decide, sm_of (by decide) (by decide), fun r r0 r1 => ?_⟩
    walk_at "w"
    refine ⟨by walk_at "z", ?_⟩
    walk_at "w"
    refine ⟨by decide, sm_of (by decide) (by decide), fun p' p0' p1' => ?_⟩
    walk_at "w"
    refine ⟨by decide, sm_of (by decide) (by decide), fun r' r0' r1' => ?_⟩
    walk_at "w"
    refine ⟨by walk_at "z", ?_⟩
    walk_at "w"
    refine ⟨by walk_at "z", ?_⟩
    have e : (((97 + p).toNat * (98 + p').toNat : Nat) : Int) = (97 + p) * (98 + p') := by
      rw [Int.natCast_mul, Int.toNat_of_nonneg (by omega), Int.toNat_of_nonneg (by omega)]
    have w1 : (BM.rest (97 + p) r).Wf ((97 + p).toNat * (98 + p').toNat) 50 := ⟨by omega, by rw [e]; exact Int.dvd_mul_right _ _⟩
    have w2 : (BM.rest (98 + p') r').Wf ((97 + p).toNat * (98 + p').toNat) 50 := ⟨by omega, by rw [e]; exact Int.dvd_mul_left _ _⟩
    have n1 : 1 ≤ (97 + p).toNat * (98 + p').toNat := Nat.mul_pos (by omega) (by omega)
    have n2 : (97 + p).toNat * (98 + p').toNat ≤ 10000 := Nat.le_trans (Nat.mul_le_mul (show (97 + p).toNat ≤ 99 by omega) (show (98 + p').toNat ≤ 100 by omega)) (by decide)
    exact h (.rest (97 + p) r) (.rest (98 + p') r') _ 50 ⟨by simp [BM.depth], by simp [BM.depth], w1, w2, n1, n2, by decide, by decide, few_rest (by omega) (by omega) w1 w2 n1 n2 (by decide) (by decide)⟩
  walk_at "w"
  refine iteB_by (fun c => ?_) (fun c => ?_)
  · walk_at "w"
    refine ⟨by decide, sm_of (by decide) (by decide), fun r r0 r1 => ?_⟩
    walk_at "w"
    refine ⟨by walk_at "z", ?_⟩
    walk_at "w"
    refine ⟨by walk_at "z", ?_⟩
    walk_at "w"
    refine pick_ok (by simp) (by walk_at "z") fun d hd => ?_
    obtain ⟨k, N, rfl, k1, k2, k3, N1, N2⟩ : ∃ (k : Int) (N : Nat), d = .int k ∧ 1 ≤ k ∧ k ∣ (N : Int) ∧ (360 : Int) ∣ (N : Int) ∧ 1 ≤ N ∧ N ≤ 1800 := by
      simp only [List.mem_cons, List.not_mem_nil, or_false] at hd
      rcases hd with rfl | rfl | rfl | rfl | rfl
      · exact ⟨8, 360, rfl, by decide, by decide, by decide, by decide, by decide⟩
      · exact ⟨16, 720, rfl, by decide, by decide, by decide, by decide, by decide⟩
      · exact ⟨24, 360, rfl, by decide, by decide, by decide, by decide, by decide⟩
      · exact ⟨25, 1800, rfl, by decide, by decide, by decide, by decide, by decide⟩
      · exact ⟨27, 1080, rfl, by decide, by decide, by decide, by decide, by decide⟩
    walk_at "w"
    refine ⟨by decide, sm_of (by decide) (by decide), fun r' r0' r1' => ?_⟩
    walk_at "w"
    refine ⟨by walk_at "z", ?_⟩
    walk_at "w"
    refine ⟨by walk_at "z", ?_⟩
    have w1 : (BM.rest 360 r).Wf N 50 := ⟨by decide, k3⟩
    have w2 : (BM.rest k r').Wf N 50 := ⟨k1, k2⟩
    exact h (.rest 360 r) (.rest k r') N 50 ⟨by simp [BM.depth], by simp [BM.depth], w1, w2, N1, by omega, by decide, by decide, few_of w1 w2 N1 (by decide) (by omega)⟩
  walk_at "w"
  refine ⟨by decide, sm_of (by decide) (by decide), fun k k0 k1 => ?_⟩
  walk_at "w"
  refine ⟨⟨by omega, by omega⟩, ?_⟩
  rw [rgD_map]
  refine lc_any (φ := fun i : Nat => D.int (0 + (i : Int))) (fun d => ∃ z : Int, d = .int z ∧ 2 ≤ z ∧ z < 5000) (List.range (1 + k).toNat) [] (fun i hi kk no hk => ?_) (by simp; omega) (fun d hd => by cases hd) fun ds hl hds => ?_
  · walk_at "w"
    refine ⟨by decide, sm_of (by decide) (by decide), fun z z0 z1 => ?_⟩
    walk_at "w"
    exact hk _ ⟨2 + z, rfl, by omega, by omega⟩
  obtain ⟨l, rfl, hl2⟩ : ∃ l : List Int, ds = l.map .int ∧ ∀ z ∈ l, 2 ≤ z ∧ z < 5000 := by
    clear hl
    induction ds with
    | nil => exact ⟨[], rfl, fun z hz => by cases hz⟩
    | cons d ds ih =>
      obtain ⟨z, rfl, a, b⟩ := hds d List.mem_cons_self
      obtain ⟨l, rfl, hl⟩ := ih fun y hy => hds y (List.mem_cons_of_mem _ hy)
      refine ⟨z :: l, rfl, fun y hy => ?_⟩
      rcases List.mem_cons.mp hy with rfl | hy
      · exact ⟨a, b⟩
      · exact hl y hy
  rw [List.length_map, List.length_nil, List.length_range] at hl
  have dv : ∀ z : Int, 0 ≤ z → z < 6 → (1 + z) ∣ ((60 : Nat) : Int) := fun z z0 z1 => by
    have : z = 0 ∨ z = 1 ∨ z = 2 ∨ z = 3 ∨ z = 4 ∨ z = 5 := by omega
    rcases this with rfl | rfl | rfl | rfl | rfl | rfl <;> decide
  walk_at "w"
  refine ⟨by decide, sm_of (by decide) (by decide), fun u u0 u1 => ?_⟩
  walk_at "w"
  refine ⟨by walk_at "z", ?_⟩
  walk_at "w"
  refine ⟨by decide, sm_of (by decide) (by decide), fun y y0 y1 => ?_⟩
  walk_at "w"
  refine ⟨by walk_at "z", ?_⟩
  walk_at "w"
  refine ⟨by walk_at "z", ?_⟩
  walk_at "w"
  refine ⟨by walk_at "z", ?_⟩
  walk_at "w"
  refine ⟨by decide, sm_of (by decide) (by decide), fun v v0 v1 => ?_⟩
  walk_at "w"
  refine ⟨by walk_at "z", ?_⟩
  walk_at "w"
  refine ⟨by walk_at "z", ?_⟩
  walk_at "w"
  refine ⟨by walk_at "z", ?_⟩
  have w1 : (BM.bin .or (.up (4000 + u)) (.rest (1 + y) 0)).Wf 60 5000 := ⟨show 4000 + u ≤ ((5000 : Nat) : Int) by omega, by omega, dv y y0 y1⟩
  have w2 : (BM.bin .xor (.of l) (.rest (1 + v) 0)).Wf 60 5000 := ⟨⟨by omega, hl2⟩, by omega, dv v v0 v1⟩
  exact h (.bin .or (.up (4000 + u)) (.rest (1 + y) 0)) (.bin .xor (.of l) (.rest (1 + v) 0)) 60 5000 ⟨by simp [BM.depth], by simp [BM.depth], w1, w2, by decide, by decide, by decide, by decide, few_of w1 w2 (by decide) (by decide) (by decide)⟩
theorem pick_sgn (h : ∀ g : Sgn, q (.str g.str)) : wp__law_pick [.str "&|-^"] q x := by
  unfold wp__law_pick
  refine ⟨rfl, ?_⟩
  walk_at "w"
  refine ⟨by decide +kernel, ?_⟩
  walk_at "w"
  have e : ((Str.ofString "&|-^").length : Int) = 4 := by decide +kernel
  rw [e]
  refine ⟨by decide, sm_of (by decide) (by decide), fun r r0 r1 => ?_⟩
  obtain ⟨g, c, hc, hg⟩ : ∃ (g : Sgn) (c : Nat), atI (Str.ofString "&|-^").cps.toList r = some c ∧ (⟨#[c]⟩ : Str) = g.str := by
    have : r = 0 ∨ r = 1 ∨ r = 2 ∨ r = 3 := by omega
    rcases this with rfl | rfl | rfl | rfl
    · exact ⟨.an, 38, by decide +kernel, by decide +kernel⟩
    · exact ⟨.or, 124, by decide +kernel, by decide +kernel⟩
    · exact ⟨.sub, 45, by decide +kernel, by decide +kernel⟩
    · exact ⟨.xor, 94, by decide +kernel, by decide +kernel⟩
  refine ⟨by decide +kernel, c, hc, ?_⟩
  rw [hg]
  exact h g
theorem great_right_v (h : q (.bl true)) : wp__law_great_right [] q x := by
  unfold wp__law_great_right
  refine ⟨rfl, ?_⟩
  refine seq3 (fun env => ∃ (m1 m2 : BM) (N S : Nat) (g : Sgn) (s p : Nat) (rs ls : List Nat) (v3 v4 : Sl), Great m1 m2 N S ∧ Can (BM.bin g m1 m2).fN s p rs ls ∧ env = [.dl, .va m1.toD, .va m2.toD, v3, v4, .va (.str g.str), .va (bo s p rs ls)]) (fun e' _ _ _ _ hnx => ?_) ?_
  · walk_at "w"
    refine great_v fun m1 m2 N S G => ?_
    have d1 := G.d1
    have d2 := G.d2
    have n1 := G.n1
    have n2 := G.n2
    have s1 := G.s1
    have s2 := G.s2
    walk_at "w"
    refine set_of_ok (N := N) (S := S) n1 (by omega) s1 (by omega) 5 m1 _ _ (by omega) G.w1 fun t1 p1 rs1 ls1 c1 => ?_
    walk_at "w"
    refine set_of_ok (N := N) (S := S) n1 (by omega) s1 (by omega) 5 m2 _ _ (by omega) G.w2 fun t2 p2 rs2 ls2 c2 => ?_
    walk_at "w"
    refine pick_sgn fun g => ?_
    obtain ⟨tl1, pl1⟩ := can_le c1 n1 s1 (wf_ev _ G.w1)
    obtain ⟨tl2, pl2⟩ := can_le c2 n1 s1 (wf_ev _ G.w2)
    have lc : Nat.lcm p1 p2 ≤ 80000 := lcm_of n1 pl1 pl2 (by omega)
    cases g
    · walk_at "w"
      refine ⟨rfl, rfl, ?_⟩
      unfold wp_Bases_and
      refine ⟨rfl, ?_⟩
      walk_at "w"
      exact mixed_ok (g := .an) c1 c2 (by omega) (by omega) lc fun s p rs ls c => hnx _ ⟨m1, m2, N, S, .an, s, p, rs, ls, _, _, G, c, rfl⟩
    · walk_at "w"
      refine ⟨rfl, rfl, ?_⟩
      unfold wp_Bases_or
      refine ⟨rfl, ?_⟩
      walk_at "w"
      exact mixed_ok (g := .or) c1 c2 (by omega) (by omega) lc fun s p rs ls c => hnx _ ⟨m1, m2, N, S, .or, s, p, rs, ls, _, _, G, c, rfl⟩
    · walk_at "w"
      refine ⟨rfl, rfl, ?_⟩
      unfold wp_Bases_sub
      refine ⟨rfl, ?_⟩
      walk_at "w"
      exact mixed_ok (g := .sub) c1 c2 (by omega) (by omega) lc fun s p rs ls c => hnx _ ⟨m1, m2, N, S, .sub, s, p, rs, ls, _, _, G, c, rfl⟩
    · walk_at "w"
      refine ⟨rfl, rfl, ?_⟩
      unfold wp_Bases_xor
      refine ⟨rfl, ?_⟩
      walk_at "w"
      exact mixed_ok (g := .xor) c1 c2 (by omega) (by omega) lc fun s p rs ls c => hnx _ ⟨m1, m2, N, S, .xor, s, p, rs, ls, _, _, G, c, rfl⟩
  rintro _ ⟨m1, m2, N, S, g, s, p, rs, ls, v3, v4, G, c, rfl⟩
  have d1 := G.d1
  have d2 := G.d2
  have n1 := G.n1
  have n2 := G.n2
  have s1 := G.s1
  have s2 := G.s2
  walk_at "w"
  refine ⟨by walk_at "z", ?_⟩
  walk_at "w"
  exact is_v (m := .bin g m1 m2) (N := N) (S := S) n1 (by omega) s1 (by omega) (by simp only [BM.depth]; omega) ⟨G.w1, G.w2⟩ c (G.few g s p rs ls c) h
end
theorem law_holds : w_law := by
  unfold w_law
  refine seq_by (fun env => env = [.un, .dl, .un, .un, .un, .un, .un, .un, .un, .un, .un, .un, .un]) (fun e' _ _ _ _ hnx => ?_) ?_
  · walk_at "w"
    refine great_right_v ?_
    walk_at "w"
    exact hnx _ rfl
  rintro _ rfl
  refine seq_by (fun _ => True) (fun e' _ _ _ _ hnx => ?_) (fun env _ => ?_)
  · walk_at "w"
    refine ⟨⟨by decide, by decide⟩, ?_⟩
    refine for_range (fun k env => ∃ v2 v3 v4 v5 v6 v7 v8 v9 v10 v11 v12 : Sl, env = [.un, .dl, v2, v3, v4, v5, v6, v7, v8, v9, v10, v11, v12]) ⟨_, _, _, _, _, _, _, _, _, _, _, rfl⟩ ?_ (fun env _ => hnx env trivial)
    rintro n env e1 hn ⟨v2, v3, v4, v5, v6, v7, v8, v9, v10, v11, v12, rfl⟩ _ _ _ _ hN
    refine seq3 (fun env => ∃ (m1 m2 : BM) (z1 z2 : List D) (v2 : Sl), ((m1.depth ≤ 3 ∧ m2.depth ≤ 2) ∧ (m1.Wf 60 50 ∧ m2.Wf 60 50) ∧ B m1.fN (.obj 2 z1) ∧ B m2.fN (.obj 2 z2)) ∧ env = [.un, .dl, v2, .va m1.toD, .va m2.toD, .va (.obj 2 z1), .va (.obj 2 z2), v7, v8, v9, v10, v11, v12]) (fun e' _ _ _ _ hnx => ?_) ?_
    · walk_at "w"
      refine model_ok 5 3 3 _ _ rfl (by decide) fun m1 d1 w1 => ?_
      walk_at "w"
      refine model_ok 5 2 2 _ _ rfl (by decide) fun m2 d2 w2 => ?_
      walk_at "w"
      refine set_v (by omega) w1 fun z1 h1 => ?_
      walk_at "w"
      refine set_v (by omega) w2 fun z2 h2 => ?_
      walk_at "w"
      refine is_p (by omega) w1 h1 ?_
      walk_at "w"
      refine is_p (by omega) w2 h2 ?_
      walk_at "w"
      refine ⟨rfl, inv_v h1 fun z3 h3 => ?_⟩
      walk_at "w"
      refine ⟨by walk_at "z", ?_⟩
      walk_at "w"
      refine is_p (m := .not m1) (by simp only [BM.depth]; omega) w1 h3 ?_
      walk_at "w"
      exact hnx _ ⟨m1, m2, z1, z2, _, ⟨⟨d1, d2⟩, ⟨w1, w2⟩, h1, h2⟩, rfl⟩
    clear v2 v3 v4 v5 v6
    rintro _ ⟨m1, m2, z1, z2, v2, ⟨⟨d1, d2⟩, ⟨w1, w2⟩, h1, h2⟩, rfl⟩
    refine seq6 (fun env => ∃ (v7 v8 v9 v10 v11 v12 : Sl), env = [.un, .dl, v2, .va m1.toD, .va m2.toD, .va (.obj 2 z1), .va (.obj 2 z2), v7, v8, v9, v10, v11, v12]) (fun e' _ _ _ _ hnx => ?_) ?_
    · walk_at "w"
      refine ⟨by walk_at "z", ?_⟩
      walk_at "w"
      refine ⟨rfl, rfl, or_v h1 h2 fun y1 k1 => ?_⟩
      walk_at "w"
      refine ⟨rfl, rfl, sub_v h1 h2 fun y2 k2 => ?_⟩
      walk_at "w"
      refine ⟨rfl, rfl, and_v h1 h2 fun y3 k3 => ?_⟩
      walk_at "w"
      refine ⟨rfl, rfl, xor_v h1 h2 fun y4 k4 => ?_⟩
      walk_at "w"
      refine ⟨by walk_at "z", ?_⟩
      walk_at "w"
      refine ⟨by walk_at "z", ?_⟩
      walk_at "w"
      refine ⟨by walk_at "z", ?_⟩
      walk_at "w"
      refine ⟨by walk_at "z", ?_⟩
      walk_at "w"
      refine ⟨by walk_at "z", ?_⟩
      refine for_map (φ := fun t : Sgn × List D => D.tup [.obj 2 t.2, .str t.1.str]) (fun _ env => ∃ v7 v8 v9 v10 v11 v12 : Sl, env = [.un, .dl, v2, .va m1.toD, .va m2.toD, .va (.obj 2 z1), .va (.obj 2 z2), v7, v8, v9, v10, v11, v12]) [(.or, y1), (.sub, y2), (.an, y3), (.xor, y4)] ⟨_, _, _, _, _, _, rfl⟩ ?_ (fun env z => hnx env z)
      rintro pre ⟨g, y⟩ suf env e2 hx ⟨v7, v8, v9, v10, v11, v12, rfl⟩ _ _ _ _ hN2
      have hy : B (BM.bin g m1 m2).fN (.obj 2 y) := by
        have : (g, y) ∈ [(Sgn.or, y1), (.sub, y2), (.an, y3), (.xor, y4)] := by rw [hx]; simp
        simp only [List.mem_cons, List.not_mem_nil, or_false, Prod.mk.injEq] at this
        rcases this with ⟨rfl, rfl⟩ | ⟨rfl, rfl⟩ | ⟨rfl, rfl⟩ | ⟨rfl, rfl⟩
        · exact k1
        · exact k2
        · exact k3
        · exact k4
      walk_at "w"
      refine ⟨by walk_at "z", ?_⟩
      walk_at "w"
      refine is_p (m := .bin g m1 m2) (by simp only [BM.depth]; omega) ⟨w1, w2⟩ hy ?_
      walk_at "w"
      exact hN2 _ ⟨_, _, _, _, _, _, rfl⟩
    clear v7 v8 v9 v10 v11 v12
    rintro _ ⟨v7, v8, v9, v10, v11, v12, rfl⟩
    refine seq2 (fun env => env = [.un, .dl, v2, .va m1.toD, .va m2.toD, .va (.obj 2 z1), .va (.obj 2 z2), v7, v8, v9, v10, v11, v12]) (fun e' _ _ _ _ hnx => ?_) ?_
    · walk_at "w"
      refine is_p (by omega) w1 h1 ?_
      walk_at "w"
      refine is_p (by omega) w2 h2 ?_
      walk_at "w"
      refine ⟨rfl, rfl, eq_v h1 h2 ?_⟩
      walk_at "w"
      refine told_ok (N := 60) (S := 50) (by decide) (by decide) (by decide) (by decide) (by omega) w1 fun s p rs ls c => ?_
      walk_at "w"
      refine told_ok (N := 60) (S := 50) (by decide) (by decide) (by decide) (by decide) (by omega) w2 fun s' p' rs' ls' c' => ?_
      walk_at "w"
      refine eqP_tl ?_
      rw [can_eqv c c']
      walk_at "w"
      rw [beq_self_eq_true]
      exact hnx _ rfl
    rintro _ rfl
    obtain ⟨s, p, rs, ls, c, _, e5⟩ := id h1
    rw [e5] at h1 ⊢
    walk_at "w"
    obtain ⟨c1, c2, c3, c4⟩ := can_small w1 c
    refine ⟨rfl, Bases_str_ok c1 c2 c3 c4 ?_⟩
    walk_at "w"
    refine told_ok (N := 60) (S := 50) (by decide) (by decide) (by decide) (by decide) (by omega) w1 fun s' p' rs' ls' c' => ?_
    walk_at "w"
    refine ⟨by walk_at "z", ?_⟩
    refine ⟨rfl, trivial, eq_no (.inl rfl) ⟨rfl, trivial, eq_no (.inr (.inr ⟨_, rfl⟩)) ⟨rfl, trivial, eq_no (.inr (.inl ⟨_, rfl⟩)) ⟨rfl, trivial, eq_no (.inr (.inr ⟨_, rfl⟩)) ⟨rfl, ?_⟩⟩⟩⟩⟩
    exact hN _ ⟨_, _, _, _, _, _, _, _, _, _, _, rfl⟩
  · rfl

end K31

local macro_rules | `(tactic| walk_at "go") => `(tactic| repeat (first | refine ⟨_, rfl, ?_⟩ | refine ⟨_, _, rfl, rfl, ?_⟩ | refine ⟨rfl, ?_⟩ | refine ⟨_, _, rfl, rfl, ⟨by decide, by decide, by decide⟩, ?_⟩))
local macro_rules | `(tactic| walk_at "w") => `(tactic| conv => whnf)
local macro_rules | `(tactic| walk_at "z") => `(tactic| first | decide | exact Nat.le_of_ble_eq_true rfl | omega | (simp; omega))
local macro_rules | `(tactic| walk_at "i") => `(tactic| repeat (refine ⟨_, rfl, ?_⟩; walk_at "w"))
namespace K31
open PySem PySem.Spec PyProof.Rows L2 Eb
def tbl (K : PySem.W.Frag) (C : Nat → Addr) : Tb := ⟨K, C, fun c => match c with | 2 => ["start", "period", "rests", "lone"] | _ => [], fun c => match c with  | _ => ""⟩
section
variable {P : Program} {w : World} {K : PySem.W.Frag} {mg : Str → Option Value} {base : Heap} {F : Nat → Addr} {D : Nat → FuncData} {C I : Nat → Addr}

theorem po_Bases_start (T : Txt K mg F D C) : PutOk (tbl K C) "start" 2 0 := ⟨T.cl_Bases, T.na_Bases_start, rfl, by decide, by show ((["start", "period", "rests", "lone"] : List Str).take 0).contains "start" = false; decide +kernel, by show 0 ≤ 4; decide⟩
theorem fd_Bases_start (T : Txt K mg F D C) : FldOk (tbl K C) "start" 2 0 := ⟨T.cl_Bases, T.na_Bases_start, fun vs h => match vs, h with | [_, _, _, _], _ => rfl⟩
theorem po_Bases_period (T : Txt K mg F D C) : PutOk (tbl K C) "period" 2 1 := ⟨T.cl_Bases, T.na_Bases_period, rfl, by decide, by show ((["start", "period", "rests", "lone"] : List Str).take 1).contains "period" = false; decide +kernel, by show 1 ≤ 4; decide⟩
theorem fd_Bases_period (T : Txt K mg F D C) : FldOk (tbl K C) "period" 2 1 := ⟨T.cl_Bases, T.na_Bases_period, fun vs h => match vs, h with | [_, _, _, _], _ => rfl⟩
theorem po_Bases_rests (T : Txt K mg F D C) : PutOk (tbl K C) "rests" 2 2 := ⟨T.cl_Bases, T.na_Bases_rests, rfl, by decide, by show ((["start", "period", "rests", "lone"] : List Str).take 2).contains "rests" = false; decide +kernel, by show 2 ≤ 4; decide⟩
theorem fd_Bases_rests (T : Txt K mg F D C) : FldOk (tbl K C) "rests" 2 2 := ⟨T.cl_Bases, T.na_Bases_rests, fun vs h => match vs, h with | [_, _, _, _], _ => rfl⟩
theorem po_Bases_lone (T : Txt K mg F D C) : PutOk (tbl K C) "lone" 2 3 := ⟨T.cl_Bases, T.na_Bases_lone, rfl, by decide, by show ((["start", "period", "rests", "lone"] : List Str).take 3).contains "lone" = false; decide +kernel, by show 3 ≤ 4; decide⟩
theorem fd_Bases_lone (T : Txt K mg F D C) : FldOk (tbl K C) "lone" 2 3 := ⟨T.cl_Bases, T.na_Bases_lone, fun vs h => match vs, h with | [_, _, _, _], _ => rfl⟩
theorem fo_Bases_lone (T : Txt K mg F D C) : ∀ c k, ([(2, 3)] : List (Nat × Nat)).lookup c = some k → FldOk (tbl K C) "lone" c k := by
  intro c k h
  simp only [List.lookup_cons] at h
  by_cases e : (c == 2) = true
  · rw [e] at h; cases h; cases (beq_iff_eq.mp e); exact fd_Bases_lone T
  · rw [Bool.not_eq_true] at e; rw [e] at h; dsimp only at h; clear e
    cases h
theorem fo_Bases_period (T : Txt K mg F D C) : ∀ c k, ([(2, 1)] : List (Nat × Nat)).lookup c = some k → FldOk (tbl K C) "period" c k := by
  intro c k h
  simp only [List.lookup_cons] at h
  by_cases e : (c == 2) = true
  · rw [e] at h; cases h; cases (beq_iff_eq.mp e); exact fd_Bases_period T
  · rw [Bool.not_eq_true] at e; rw [e] at h; dsimp only at h; clear e
    cases h
theorem fo_Bases_rests (T : Txt K mg F D C) : ∀ c k, ([(2, 2)] : List (Nat × Nat)).lookup c = some k → FldOk (tbl K C) "rests" c k := by
  intro c k h
  simp only [List.lookup_cons] at h
  by_cases e : (c == 2) = true
  · rw [e] at h; cases h; cases (beq_iff_eq.mp e); exact fd_Bases_rests T
  · rw [Bool.not_eq_true] at e; rw [e] at h; dsimp only at h; clear e
    cases h
theorem fo_Bases_start (T : Txt K mg F D C) : ∀ c k, ([(2, 0)] : List (Nat × Nat)).lookup c = some k → FldOk (tbl K C) "start" c k := by
  intro c k h
  simp only [List.lookup_cons] at h
  by_cases e : (c == 2) = true
  · rw [e] at h; cases h; cases (beq_iff_eq.mp e); exact fd_Bases_start T
  · rw [Bool.not_eq_true] at e; rw [e] at h; dsimp only at h; clear e
    cases h
theorem is_int (T : Txt K mg F D C) : ∀ c ∈ ([2] : List Nat), InsOk (tbl K C) c ∧ PySem.W.kitOne (tbl K C).K (.ref ((tbl K C).C c)) (.type (BT.nm .int)) = some false := by
  intro c h
  simp only [List.mem_cons, List.not_mem_nil, or_false] at h
  subst h; exact ⟨⟨T.cl_Bases, T.ta_Bases, T.tb_Bases, T.tc_Bases, T.td_Bases⟩, T.kt_Bases_int⟩
theorem is_bool (T : Txt K mg F D C) : ∀ c ∈ ([2] : List Nat), InsOk (tbl K C) c ∧ PySem.W.kitOne (tbl K C).K (.ref ((tbl K C).C c)) (.type (BT.nm .bool)) = some false := by
  intro c h
  simp only [List.mem_cons, List.not_mem_nil, or_false] at h
  subst h; exact ⟨⟨T.cl_Bases, T.ta_Bases, T.tb_Bases, T.tc_Bases, T.td_Bases⟩, T.kt_Bases_bool⟩
theorem no_Bases (T : Txt K mg F D C) : NotOf (tbl K C) 2 := by
  intro m h
  simp only [List.mem_cons, List.not_mem_nil, or_false] at h
  rcases h with rfl | rfl | rfl | rfl | rfl | rfl
  · exact T.kn_Bases_NoneType
  · exact T.kn_Bases_bool
  · exact T.kn_Bases_int
  · exact T.kn_Bases_str
  · exact T.kn_Bases_list
  · exact T.kn_Bases_tuple
theorem su_Bases (T : Txt K mg F D C) : ∀ c b, ([(2, true)] : List (Nat × Bool)).lookup c = some b → InsOk (tbl K C) c ∧ PySem.W.kitOne (tbl K C).K (.ref ((tbl K C).C c)) (.ref ((tbl K C).C 2)) = some b := by
  intro c b h
  simp only [List.lookup_cons] at h
  by_cases e : (c == 2) = true
  · rw [e] at h; cases h; cases (beq_iff_eq.mp e); exact ⟨⟨T.cl_Bases, T.ta_Bases, T.tb_Bases, T.tc_Bases, T.td_Bases⟩, T.ko_Bases_Bases⟩
  · rw [Bool.not_eq_true] at e; rw [e] at h; dsimp only at h; clear e
    cases h
theorem last_split {xs : List Int} {z : Int} (h : xs.getLast? = some z) : xs = xs.dropLast ++ [z] := by
  obtain ⟨ys, rfl⟩ := List.getLast?_eq_some_iff.mp h
  simp
theorem last_at {xs : List Int} {z : Int} (h : xs.getLast? = some z) : atI (xs.map V.int) (-1) = some (.int z) := by
  rw [last_split h, List.map_append]
  exact atI_last _ _
theorem last_get {xs : List Int} {z : Int} (h : xs.getLast? = some z) : (xs.map V.int)[(xs.map V.int).length - 1]? = some (.int z) := by
  rw [← List.getLast?_eq_getElem?, List.getLast?_map, h]
  rfl
theorem last_none {xs : List Int} (h : xs ≠ []) : ∃ z, xs.getLast? = some z := ⟨xs.getLast h, List.getLast?_eq_getLast h⟩
def sp_draw : Sp := fun vs H Q _ => ∃ (d l : Addr) (n : Int), vs = [V.ref d, .int n] ∧ Deal H d l ∧ 0 < n ∧ Sm n ∧ ∀ r H', 0 ≤ r → r < n → Drew d l H H' → Q (.int r) H'
theorem ok__law_draw (T : Txt K mg F D C) : FnOk P w K mg base CX0 1 (F 25) (D 25) ["_law_deal_here", "_law_span_here"] (sp_draw) := by
  refine T.f__law_draw.ok sc__law_draw (fun vs H Q E h => ?_) (fun cdv A outer s H vs Q E hr h => ?_)
  · obtain ⟨d, l, n, rfl, D0, hn, sn, q⟩ := h
    rfl
  · obtain ⟨d, l, n, rfl, D0, hn, sn, q⟩ := h
    refine ⟨_, (pss_cons (ps_while PassesOwn.never (PW.pt (pw_and (pt_cmpR (op_neL hr.units) (pe_ix ix_list (pv 0) pe_int (fun _ _ => rfl)) (pe_lst pa_nil) (nomark _)) (pw_and1 (pt_cmpR op_eq (pe_ix ix_list (pe_ix ix_list (pv 0) pe_int (fun _ _ => rfl)) (pe_un un_neg pe_int) (fun _ _ => rfl)) pe_int (nomark _))))) (pss_one (ps_expr (pe_bm0 PySem.F.plainAttrs_list PySem.F.slot_list_pop PySem.F.type_list_pop mt_pop (pe_ix ix_list (pv 0) pe_int (fun _ _ => rfl)))))) (pss_cons (ps_if (pt_cmpR (op_neL hr.units) (pe_ix ix_list (pv 0) pe_int (fun _ _ => rfl)) (pe_lst pa_nil) (nomark _)) (pss_cons (ps_set (i := 2) sc__law_draw.nd rfl (.inl rfl) (pe_bm0 PySem.F.plainAttrs_list PySem.F.slot_list_pop PySem.F.type_list_pop mt_pop (pe_ix ix_list (pv 0) pe_int (fun _ _ => rfl)))) (pss_cons (ps_expr (pe_bm PySem.F.plainAttrs_list PySem.F.slot_list_append PySem.F.type_list_append mt_append (pe_ix ix_list (pv 0) pe_int (fun _ _ => rfl)) (pa_cons (pe_op op_fdivX (pv 2) (pv 1)) pa_nil))) (pss_one (ps_ret (pe_op op_mod (pe_callTy call_int1 (by rfl) T.n_int Eb.bb_int (pa_cons (pv 2) pa_nil)) (pv 1)))))) pss_nil) (pss_cons (ps_asg (pe_op op_mod (pe_callTy call_int1 (by rfl) T.n_int Eb.bb_int (pa_cons (pe_op op_mulW (pe_ix ix_list (pv 0) pe_int (fun _ _ => rfl)) pe_int) pa_nil)) pe_int) (pg_sub (pv 0) pe_int set_list)) (pss_one (ps_ret (pe_op op_mod (pe_callTy call_int1 (by rfl) T.n_int Eb.bb_int (pa_cons (pe_op op_fdivX (pe_ix ix_list (pv 0) pe_int (fun _ _ => rfl)) pe_int) pa_nil)) (pv 1))))))), ?_⟩
    have ne : d ≠ l := D0.ne
    -- while deal[0] != [] and deal[0][-1] == 0: deal[0].pop()
    refine whl (fun m σ H' => ∃ (xs : List Int) (k : Int), σ = [some (.ref d), some (.int n), none] ∧ m = xs.length ∧ xs.length ≤ 63 ∧ H' d = some (.lst [.ref l, .int k]) ∧ H' l = some (.lst (xs.map V.int)) ∧ 0 ≤ k ∧ k < 2147483647 ∧ Grow [d, l] H H')
      (Classical.choose D0.ex).length ?_ ?_
    · obtain ⟨k, h1, h2, h3, h4, h5⟩ := Classical.choose_spec D0.ex
      exact ⟨_, k, rfl, rfl, h3, h1, h2, h4, h5, Grow.refl _ _⟩
    rintro m σ H' ⟨xs, k, rfl, rfl, hx, h1, h2, hk, hk2, g⟩
    refine by_ans (decide (xs.getLast? = some 0)) (fun Q' k' => ?_) (fun H1 s1 => ?_)
    · refine ⟨_, rfl, d, _, _, .ref l, rfl, rfl, sqL_of h1, rfl, szr rfl, fun p hp => ?_⟩
      have s1 : Same H' (upd H' p (.lst [])) := same_new hp
      refine ⟨l, p, xs, [], rfl, rfl, s1.seq (sqL_of h2), sqL_new, _, rfl, ?_⟩
      by_cases e : xs = []
      · subst e
        exact iteF (k' _ s1)
      · obtain ⟨z, hz⟩ := last_none e
        rw [decide_eq_false e]
        refine iteT ?_
        refine ⟨_, rfl, d, _, _, .ref l, rfl, rfl, sqL_of (s1 _ _ h1), rfl, 1, rfl, l, _, _, _, rfl, rfl, sqL_of (s1 _ _ h2), last_at hz, rfl, _, rfl, ?_⟩
        have e3 : decide (V.int z = V.int 0) = decide (xs.getLast? = some 0) := by
          rw [hz]
          by_cases c : z = 0
          · subst c; rfl
          · rw [decide_eq_false (fun y => c (V.int.inj y)), decide_eq_false (fun y => c (Option.some.inj y))]
        show Q' (decide (V.int z = V.int 0)) _
        rw [e3]
        exact k' _ s1
    replace h1 := s1 _ _ h1
    replace h2 := s1 _ _ h2
    replace g := g.same s1
    by_cases e : xs.getLast? = some 0
    · rw [decide_eq_true e]
      refine iteT (turn_of ?_)
      refine ⟨_, rfl, d, _, _, .ref l, rfl, rfl, sqL_of h1, rfl, .inl ⟨rfl, _, sqL_of h2⟩, l, _, _, rfl, rfl, h2, last_get e, ?_⟩
      have hl : 0 < xs.length := List.length_pos_iff.mpr (fun z => by subst z; cases e)
      refine ⟨xs.length - 1, by omega, xs.dropLast, k, rfl, by simp, by simp; omega, ?_, ?_, hk, hk2, g.at (by simp)⟩
      · rw [upd_ne ne]
        exact h1
      · rw [upd_same, List.map_dropLast]
    · rw [decide_eq_false e]
      refine iteF ?_
      have D1 : Deal H1 d l := ⟨xs, k, h1, h2, hx, hk, hk2⟩
      -- if deal[0] != []
      refine ⟨_, rfl, d, _, _, .ref l, rfl, rfl, sqL_of h1, rfl, szr rfl, fun p hp => ?_⟩
      have s2 : Same H1 (upd H1 p (.lst [])) := same_new hp
      generalize hH2 : upd H1 p (.lst []) = H2 at s2
      have hp2 : H2 p = some (.lst []) := by rw [← hH2]; exact upd_same
      replace h1 := s2 _ _ h1
      replace h2 := s2 _ _ h2
      replace g := g.same s2
      refine ⟨l, p, xs, [], rfl, rfl, sqL_of h2, sqL_of hp2, _, rfl, ?_⟩
      by_cases e2 : xs = []
      · subst e2
        refine iteF ?_
        -- deal[1] = int(deal[1] * 48271) % 2147483647
        refine ⟨_, rfl, d, _, _, .int k, rfl, rfl, sqL_of h1, rfl, _, _, rfl, rfl, mulW (sm_of hk (by omega)) (sm_of (by decide) (by decide)), .inl ⟨_, rfl, ?_⟩⟩
        refine ⟨_, _, rfl, rfl, (show (0 : Int) < 2147483647 by decide), ?_⟩
        refine ⟨_, rfl, d, _, _, 1, rfl, rfl, h1, rfl, ?_⟩
        have b0 : 0 ≤ k * 48271 % 2147483647 := by omega
        have b1 : k * 48271 % 2147483647 < 2147483647 := by omega
        -- return int(deal[1] // 8) % span
        refine ⟨_, rfl, d, _, _, _, rfl, rfl, sqL_of upd_same, rfl, _, _, rfl, rfl, divW (by decide) (sm_of (by decide) (by decide)), .inl ⟨_, rfl, ?_⟩⟩
        refine ⟨_, rfl, _, _, rfl, rfl, hn, ?_⟩
        refine q _ _ (Int.emod_nonneg _ (by omega)) (Int.emod_lt_of_pos _ hn) ⟨⟨[], _, upd_same, ?_, hx, b0, b1⟩, g.at (by simp)⟩
        rw [upd_ne ne.symm]
        exact h2
      · rw [decide_eq_false e2]
        refine iteT ?_
        obtain ⟨z, hz⟩ := last_none e2
        have hl : 0 < xs.length := List.length_pos_iff.mpr e2
        -- left = deal[0].pop()
        refine ⟨_, rfl, d, _, _, .ref l, rfl, rfl, sqL_of h1, rfl, .inl ⟨rfl, _, sqL_of h2⟩, l, _, _, rfl, rfl, h2, last_get hz, ?_⟩
        have h1' : upd H2 l (.lst ((xs.map V.int).dropLast)) d = some (.lst [.ref l, .int k]) := by rw [upd_ne ne]; exact h1
        -- deal[0].append(left // span)
        refine ⟨_, rfl, d, _, _, .ref l, rfl, rfl, sqL_of h1', rfl, .inl ⟨rfl, _, sqL_of upd_same⟩, _, rfl, _, rfl, _, _, rfl, rfl, divW hn sn, l, _, _, rfl, rfl, upd_same, ?_, ?_⟩
        · rw [List.length_dropLast, List.length_map]
          exact szl (by omega)
        -- return int(left) % span
        refine ⟨_, rfl, .inl ⟨_, rfl, ?_⟩⟩
        refine ⟨_, rfl, _, _, rfl, rfl, hn, ?_⟩
        refine q _ _ (Int.emod_nonneg _ (by omega)) (Int.emod_lt_of_pos _ hn) ⟨⟨xs.dropLast ++ [z / n], k, ?_, ?_, ?_, hk, hk2⟩, (g.at (by simp)).at (by simp)⟩
        · rw [upd_ne ne]
          exact h1'
        · rw [upd_same, List.map_append, List.map_dropLast]
          rfl
        · rw [List.length_append, List.length_dropLast]
          simp
          omega
theorem cut_ints (ns : List Int) (l h : Option Int) : ∃ ms : List Int, cutV (ns.map V.int) l h = ms.map V.int ∧ ms.length ≤ ns.length := by
  unfold cutV
  refine ⟨(ns.drop (HT.sIx (ns.map V.int).length 0 l)).take (HT.sIx (ns.map V.int).length (ns.map V.int).length h - HT.sIx (ns.map V.int).length 0 l), ?_, ?_⟩
  · rw [List.map_take, List.map_drop]
  · rw [List.length_take, List.length_drop]
    omega
/-- the source of draws: new -/
abbrev sp_deal (K : PySem.W.Frag) : Sp := Eb.sp_dealer K
theorem ok__law_deal (T : Txt K mg F D C) : FnOk P w K mg base CX0 1 (F 24) (D 24) ["_law_script", "_law_base"] (sp_deal K) := by
  refine T.f__law_deal.ok sc__law_deal (fun vs H Q E h => ?_) (fun cdv A outer s H vs Q E hr h => ?_)
  · obtain ⟨a, ns, k, rfl, hs, hn, k0, k1, q⟩ := h
    rfl
  · obtain ⟨a, ns, k, rfl, hs, hn, k0, k1, q⟩ := h
    refine ⟨_, (pss_cons (ps_setLc (i := 3) (own := [("_law_cell", 2)]) rfl sc__law_deal.nd rfl rfl (sw_true rfl rfl rfl (by decide +kernel)) (pi_list (pe_slice sl_list (pv 0) (po_some (pv 1)) (po_some pe_int))) (blkOk_by (N := ["_law_script", "_law_base", "_law_cell", "_law_cells", "_law_blend"]) (sc := defScope s__law_deal) (by decide +kernel)) (fun _ _ _ _ _ => (pg_name (i := 2) sc__law_deal.nd rfl (.inl rfl))) (fun _ _ _ _ _ => pts_nil) (fun _ _ _ _ _ => (pe_ifExp (pt_cmpR op_gt (pv 2) pe_int (nomark _)) (pv 2) (pe_op op_sub pe_int (pv 2))))) (pss_cons (ps_set (i := 4) sc__law_deal.nd rfl (.inl rfl) (pe_op op_add pe_int (pe_op op_mulW pe_int (pv 1)))) (pss_cons (ps_for PassesOwn.never rfl (pi_list (pv 3)) (pg_name (i := 2) sc__law_deal.nd rfl (.inl rfl)) (pss_one (ps_set (i := 4) sc__law_deal.nd rfl (.inl rfl) (pe_op op_mod (pe_callTy call_int1 (by rfl) T.n_int Eb.bb_int (pa_cons (pe_op op_add (pe_op op_mulW (pv 4) pe_int) (pe_op op_mod (pe_callTy call_int1 (by rfl) T.n_int Eb.bb_int (pa_cons (pv 2) pa_nil)) pe_int)) pa_nil)) pe_int)))) (pss_one (ps_ret (pe_lst (pa_cons (pe_revL (pe_lc (own := [("_law_cell", 2)]) rfl sc__law_deal.nd (pi_list (pv 3)) (blkOk_by (N := ["_law_script", "_law_base", "_law_cell", "_law_cells", "_law_blend"]) (sc := defScope s__law_deal) (by decide +kernel)) (fun _ _ _ _ _ => (pg_name (i := 2) sc__law_deal.nd rfl (.inl rfl))) (fun _ _ _ _ _ => (pts_one (pt_cmpR op_ge (pv 2) (pe_op op_pow pe_int pe_int) (nomark _)))) (fun _ _ _ _ _ => (pv 2)))) (pa_cons (pv 4) pa_nil)))))))), ?_⟩
    obtain ⟨ms, em, hm⟩ := cut_ints ns (some k) (some 63)
    -- cells = [.. for cell in script[base:63]]
    refine ⟨_, rfl, _, rfl, _, rfl, _, rfl, a, _, rfl, hs, fun c hc => ?_⟩
    refine ⟨c, rfl, ⟨_, sqL_new⟩, fun D hD => ?_⟩
    rw [em] at hD ⊢
    have s1 : Same H (upd H c (.lst (ms.map V.int))) := same_new hc
    generalize hH1 : upd H c (.lst (ms.map V.int)) = H1 at hD s1 ⊢
    have hc1 : H1 c = some (.lst (ms.map V.int)) := by rw [← hH1]; exact upd_same
    refine lc_list (K := K) (a := c) (xs := ms.map V.int) (fun i H' => ∃ zs : List Int, zs.length = i ∧ H' D = some (.lst (zs.map V.int)) ∧ Same H1 H') ⟨[], rfl, upd_same, same_new hD⟩ (fun i H' _ ⟨zs, _, _, sm⟩ => sqL_of (sm _ _ hc1)) ?_ ?_
    · rintro i x H' hx ⟨zs, ez, hz, sm⟩
      rw [List.getElem?_map] at hx
      obtain ⟨z, hz', rfl⟩ := Option.map_eq_some_iff.mp hx
      have hi : i < ms.length := (List.getElem?_eq_some_iff.mp hz').1
      refine ⟨rfl, ?_⟩
      have fin : ∀ y : Int, ∃ acc, H' D = some (.lst acc) ∧ acc.length < sizeLine ∧ ∃ zs : List Int, zs.length = i + 1 ∧ upd H' D (.lst (acc ++ [V.int y])) D = some (.lst (zs.map V.int)) ∧ Same H1 (upd H' D (.lst (acc ++ [V.int y]))) := fun y =>
        ⟨_, hz, by rw [List.length_map]; exact szl (by omega), zs ++ [y], by simp [ez], by rw [upd_same, List.map_append]; rfl, same_mut sm hD⟩
      first
        | exact ⟨_, rfl, _, rfl, fin _⟩
        | exact ⟨_, rfl, _, _, rfl, rfl, _, rfl, ite2 (fun _ => ⟨_, rfl, fin z⟩) (fun _ => ⟨_, rfl, _, _, rfl, rfl, fin _⟩)⟩
    · rintro H2 ⟨zs, ez, hz, sm⟩
      rw [List.length_map] at ez
      have s2 : Same H H2 := s1.trans sm
      -- blend = 40960001 + 19 * base
      refine ⟨_, rfl, _, _, rfl, rfl, mulW (sm_of (by decide) (by decide)) (sm_of k0 (by omega)), _, _, rfl, rfl, ?_⟩
      -- for cell in cells
      refine ⟨_, rfl, D, rfl, ⟨_, sqL_of hz⟩, for_list (K := K) (a := D) (xs := zs.map V.int) (fun i σ H' => ∃ (v : Option V) (b : Int), σ = [some (.ref a), some (.int k), v, some (.ref D), some (.int b)] ∧ H' = H2 ∧ 0 ≤ b ∧ b < 2147483647) ⟨none, _, rfl, rfl, by omega, by omega⟩ ?_ ?_ ?_⟩
      · rintro i σ H' _ ⟨v, b, rfl, rfl, _⟩
        exact sqL_of hz
      · rintro i x σ H' hx ⟨v, b, rfl, rfl, b0, b1⟩
        rw [List.getElem?_map] at hx
        obtain ⟨z, hz', rfl⟩ := Option.map_eq_some_iff.mp hx
        refine ⟨_, rfl, _, _, rfl, rfl, mulW (sm_of b0 (by omega)) (sm_of (by decide) (by decide)), _, rfl, .inl ⟨_, rfl, ?_⟩⟩
        refine ⟨_, _, rfl, rfl, (show (0 : Int) < 2147483629 by decide), _, _, rfl, rfl, .inl ⟨_, rfl, ?_⟩⟩
        refine ⟨_, _, rfl, rfl, (show (0 : Int) < 2147483647 by decide), ?_⟩
        exact ⟨_, _, rfl, rfl, Int.emod_nonneg _ (by decide), Int.emod_lt_of_pos _ (by decide)⟩
      · rintro σ H' ⟨v, b, rfl, rfl, b0, b1⟩
        -- [cell for cell in cells if cell >= 10 ** 18][::-1]
        refine ⟨_, rfl, D, rfl, ⟨_, sqL_of hz⟩, fun D2 hD2 => ?_⟩
        refine lc_list (K := K) (a := D) (xs := zs.map V.int) (fun i H3 => ∃ ys : List Int, ys.length ≤ i ∧ H3 D2 = some (.lst (ys.map V.int)) ∧ Same H' H3) ⟨[], Nat.le_refl _, upd_same, same_new hD2⟩ (fun i H3 _ ⟨ys, _, _, sm'⟩ => sqL_of (sm' _ _ hz)) ?_ ?_
        · rintro i x H3 hx ⟨ys, ey, hy, sm'⟩
          rw [List.getElem?_map] at hx
          obtain ⟨z, hz', rfl⟩ := Option.map_eq_some_iff.mp hx
          have hi : i < zs.length := (List.getElem?_eq_some_iff.mp hz').1
          refine ⟨rfl, _, rfl, _, _, rfl, rfl, ⟨by decide, by decide, by decide⟩, _, _, rfl, rfl, _, rfl, ite2 (fun _ => ?_) (fun _ => ?_)⟩
          · refine ⟨_, rfl, _, hy, by rw [List.length_map]; exact szl (by omega), ys ++ [z], by simp; omega, by rw [upd_same, List.map_append]; rfl, same_mut sm' hD2⟩
          · exact ⟨ys, by omega, hy, sm'⟩
        · rintro H3 ⟨ys, ey, hy, sm'⟩
          rw [List.length_map] at ey
          refine ⟨D2, _, rfl, sqL_of hy, fun l hl => ?_⟩
          refine ⟨_, rfl, szr rfl, fun d hd => ?_⟩
          have s3 : Same H3 (upd H3 l (.lst (ys.map V.int).reverse)) := same_new hl
          have s4 := same_new (o := .lst [V.ref l, .int b]) hd
          have sA : Same H H3 := s2.trans sm'
          refine q d l _ ((sA.trans s3).trans s4) (sA.free (s3.free hd)) (sA.free hl) ⟨ys.reverse, b, upd_same, ?_, by rw [List.length_reverse]; omega, b0, b1⟩
          refine s4 _ _ ?_
          rw [upd_same, List.map_reverse]

theorem okd__law_draw (T : Txt K mg F D C) : FnOk P w K mg base CX0 1 (F 25) (D 25) ["_law_deal_here", "_law_span_here"] (spG0 (tbl K C) wpDraw) := draw_g rfl rfl (ok__law_draw T)

end
end K31

namespace K31
open PySem PySem.Spec PyProof.Rows L2 Eb
section
variable {P : Program} {w : World} {K : PySem.W.Frag} {mg : Str → Option Value} {base : Heap} {F : Nat → Addr} {D : Nat → FuncData} {C I : Nat → Addr}
theorem ok_common_of (T : Txt K mg F D C) : FnOk P w K mg base CX0 1 (F 3) (D 3) ["one", "other"] (spF0 (tbl K C) wp_common_of) := by
  unfold wp_common_of
  exact fnF0 T.f_common_of sc_common_of rfl rfl rfl (fun cdv A outer s H E Z M H0 dl hr => (xss_cons (xs_while PassesOwn.never (xt_cmp (fun _ => op_gt) snd_gt (xe_var (pv 1)) xe_int (nomark _)) (xss_one (xs_par (i := 0) (j := 1) (by rfl) sc_common_of.nd rfl rfl (by decide) rfl rfl (xa_cons (xe_var (pv 1)) (xa_cons (xe_mod (xe_var (pv 0)) (xe_var (pv 1))) xa_nil)) (by rfl)))) (xss_one (xs_ret (xe_var (pv 0))))))
theorem ok_has_base (T : Txt K mg F D C) : FnOk P w K mg base CX0 1 (F 9) (D 9) ["bases", "base"] (spF0 (tbl K C) wp_has_base) := by
  unfold wp_has_base
  exact fnF0 T.f_has_base sc_has_base rfl rfl rfl (fun cdv A outer s H E Z M H0 dl hr => (xss_cons (xs_if (xt_cmp (fun _ => op_lt) snd_lt (xe_var (pv 1)) (xe_fld (fo_Bases_start T) (xe_var (pv 0))) (nomark _)) (xss_one (xs_ret (xe_cmp ho_in snd_in (xe_var (pv 1)) (xe_fld (fo_Bases_lone T) (xe_var (pv 0))) (by rfl)))) xss_nil) (xss_one (xs_ret (xe_cmp ho_in snd_in (xe_mod (xe_var (pv 1)) (xe_fld (fo_Bases_period T) (xe_var (pv 0)))) (xe_fld (fo_Bases_rests T) (xe_var (pv 0))) (by rfl))))))
theorem ok_is_mixed (T : Txt K mg F D C) : FnOk P w K mg base CX0 1 (F 7) (D 7) ["sign", "here", "there"] (spF0 (tbl K C) wp_is_mixed) := by
  unfold wp_is_mixed
  exact fnF0 T.f_is_mixed sc_is_mixed rfl rfl rfl (fun cdv A outer s H E Z M H0 dl hr => (xss_cons (xs_if (xt_cmp (ho_eq hr.units) snd_eq (xe_var (pv 0)) xe_str (nomark _)) (xss_one (xs_ret (xe_andT (xe_var (pv 1)) (xe_one (xe_var (pv 2)))))) xss_nil) (xss_cons (xs_if (xt_cmp (ho_eq hr.units) snd_eq (xe_var (pv 0)) xe_str (nomark _)) (xss_one (xs_ret (xe_orT (xe_var (pv 1)) (xe_one (xe_var (pv 2)))))) xss_nil) (xss_cons (xs_if (xt_cmp (ho_eq hr.units) snd_eq (xe_var (pv 0)) xe_str (nomark _)) (xss_one (xs_ret (xe_andT (xe_var (pv 1)) (xe_one (xe_notT (xe_var (pv 2))))))) xss_nil) (xss_one (xs_ret (xe_cmp (ho_ne hr.units) snd_ne (xe_var (pv 1)) (xe_var (pv 2)) (nomark _))))))))
theorem ok_divisors_of (T : Txt K mg F D C) : FnOk P w K mg base CX0 1 (F 4) (D 4) ["number"] (spF0 (tbl K C) wp_divisors_of) := by
  unfold wp_divisors_of
  exact fnF0 T.f_divisors_of sc_divisors_of rfl rfl rfl (fun cdv A outer s H E Z M H0 dl hr => (xss_one (xs_ret ((xl_lc (own := [("part", 1)]) rfl sc_divisors_of.nd (xi_range2 (by rfl) T.n_range (xa_cons xe_int (xa_cons (xe_add (xe_var (pv 0)) xe_int) xa_nil))) (blkOk_by (N := ["number", "part"]) (sc := defScope s_divisors_of) (by decide +kernel)) (fun _ _ _ _ _ => (xg_name (pg_name (i := 1) sc_divisors_of.nd rfl (.inl rfl)))) (fun _ _ _ _ _ => (xts_one (xt_cmp (ho_eq hr.units) snd_eq (xe_mod (xe_var (pv 0)) (xe_var (pv 1))) xe_int (nomark _)))) (fun _ _ _ _ _ => (xe_var (pv 1))))).xe)))
theorem ok_least_period (T : Txt K mg F D C) : FnOk P w K mg base CX0 2 (F 5) (D 5) ["marks"] (spF0 (tbl K C) wp_least_period) := by
  unfold wp_least_period
  exact fnF0 T.f_least_period sc_least_period rfl rfl rfl (fun cdv A outer s H E Z M H0 dl hr => (xss_cons (xs_for PassesOwn.never rfl (xi_list (xe_call (ok_divisors_of T) (hr.mono (by decide)) (by rfl) T.g_divisors_of T.f_divisors_of.kp T.b_divisors_of (xa_cons (xe_callB hc_len snd_len (by rfl) T.n_len Eb.bb_len (xa_cons (xe_var (pv 0)) xa_nil)) xa_nil))) (xg_name (pg_name (i := 1) sc_least_period.nd rfl (.inl rfl))) (xss_one (xs_if (xt_cmp (ho_eq hr.units) snd_eq (xe_var (pv 0)) (xe_mul (xe_slice (xe_var (pv 0)) xo_none (xo_some (xe_var (pv 1)))) (xe_fdiv (xe_callB hc_len snd_len (by rfl) T.n_len Eb.bb_len (xa_cons (xe_var (pv 0)) xa_nil)) (xe_var (pv 1)))) (nomark _)) (xss_one (xs_ret (xe_var (pv 1)))) xss_nil))) (xss_one (xs_ret (xe_callB hc_len snd_len (by rfl) T.n_len Eb.bb_len (xa_cons (xe_var (pv 0)) xa_nil))))))
theorem ok_Bases_init (T : Txt K mg F D C) : FnOk P w K mg base CX0 1 (F 11) (D 11) ["self", "start", "period", "rests", "lone"] (spI0 (tbl K C) 2 wp_Bases_init) := by
  unfold wp_Bases_init
  exact fnI0 T.f_Bases_init sc_Bases_init rfl rfl rfl rfl (fun cdv A outer s H E Z M H0 dl hr => (xss_cons (xs_self (po_Bases_start T) (pv 0) (xe_var (pv 1))) (xss_cons (xs_self (po_Bases_period T) (pv 0) (xe_var (pv 2))) (xss_cons (xs_self (po_Bases_rests T) (pv 0) (xe_var (pv 3))) (xss_one (xs_self (po_Bases_lone T) (pv 0) (xe_var (pv 4))))))))
theorem ok_settled_bases (T : Txt K mg F D C) : FnOk P w K mg base CX0 3 (F 6) (D 6) ["lone", "marks"] (spF0 (tbl K C) wp_settled_bases) := by
  unfold wp_settled_bases
  exact fnF0 T.f_settled_bases sc_settled_bases rfl rfl rfl (fun cdv A outer s H E Z M H0 dl hr => (xss_cons (xs_set (i := 2) sc_settled_bases.nd rfl (.inl rfl) ((xl_callTy hc_list snd_list (by rfl) T.n_list Eb.bb_list (xa_cons (xe_slice (xe_var (pv 1)) xo_none (xo_some (xe_call (ok_least_period T) (hr.mono (by decide)) (by rfl) T.g_least_period T.f_least_period.kp T.b_least_period (xa_cons ((xl_callTy hc_list snd_list (by rfl) T.n_list Eb.bb_list (xa_cons (xe_var (pv 1)) xa_nil))).xe xa_nil)))) xa_nil))).xe) (xss_cons (xs_setO (i := 3) sc_settled_bases.nd rfl (.inl rfl) (xl_callTy hc_list snd_list (by rfl) T.n_list Eb.bb_list (xa_cons (xe_var (pv 0)) xa_nil))) (xss_cons (xs_while PassesOwn.never (XW.xt (xw_and (xe_nilN hr.units (pv 3)).2 (xw_and1 (xt_cmp (ho_eq hr.units) snd_eq (xe_ixO (pv 3) (xe_neg xe_int)) (xe_ix (xe_var (pv 2)) (xe_mod (xe_sub (xe_add (xe_of (C8.pe_gc (by rfl) T.v_LEAST_BASE) (snd_c fun _ => rfl)) (xe_lenO (pv 3) (by rfl) T.n_len)) xe_int) (xe_callB hc_len snd_len (by rfl) T.n_len Eb.bb_len (xa_cons (xe_var (pv 2)) xa_nil)))) (nomark _))))) (xss_one (xs_pop (pv 3)))) (xss_cons (xs_frz 3 (xs_lcV (own := [("at", 6), ("is_in", 7)]) (i := 4) rfl sc_settled_bases.nd rfl rfl (sw_true rfl rfl rfl (by decide +kernel)) (xi_enumL (by rfl) T.n_enumerate (xe_var (pv 3))) (blkOk_by (N := ["lone", "marks", "found", "kept", "alone", "rests", "at", "is_in", "rest"]) (sc := defScope s_settled_bases) (by decide +kernel)) (fun _ _ _ _ _ => (xg_tup rfl (xgs_cons (pg_name (i := 6) sc_settled_bases.nd rfl (.inl rfl)) (xgs_cons (pg_name (i := 7) sc_settled_bases.nd rfl (.inl rfl)) xgs_nil)))) (fun _ _ _ _ _ => (xts_one (xt_truth (xe_var (pv 7)) (by intro _; rfl)))) (fun _ _ _ _ _ => (xe_add (xe_of (C8.pe_gc (by rfl) T.v_LEAST_BASE) (snd_c fun _ => rfl)) (xe_var (pv 6)))))) (xss_cons (xs_lcV (own := [("rest", 8), ("is_in", 7)]) (i := 5) rfl sc_settled_bases.nd rfl rfl (sw_true rfl rfl rfl (by decide +kernel)) (xi_enumL (by rfl) T.n_enumerate (xe_var (pv 2))) (blkOk_by (N := ["lone", "marks", "found", "kept", "alone", "rests", "at", "is_in", "rest"]) (sc := defScope s_settled_bases) (by decide +kernel)) (fun _ _ _ _ _ => (xg_tup rfl (xgs_cons (pg_name (i := 8) sc_settled_bases.nd rfl (.inl rfl)) (xgs_cons (pg_name (i := 7) sc_settled_bases.nd rfl (.inl rfl)) xgs_nil)))) (fun _ _ _ _ _ => (xts_one (xt_truth (xe_var (pv 7)) (by intro _; rfl)))) (fun _ _ _ _ _ => (xe_var (pv 8)))) (xss_one (xs_ret (xe_make T.mk_Bases (ok_Bases_init T) (hr.mono (by decide)) (by rfl) T.gc_Bases T.b_Bases_init (xa_cons (xe_add (xe_of (C8.pe_gc (by rfl) T.v_LEAST_BASE) (snd_c fun _ => rfl)) (xe_lenO (pv 3) (by rfl) T.n_len)) (xa_cons (xe_callB hc_len snd_len (by rfl) T.n_len Eb.bb_len (xa_cons (xe_var (pv 2)) xa_nil)) (xa_cons (xe_callTy hc_tuple snd_tuple (by rfl) T.n_tuple Eb.bb_tuple (xa_cons (xe_var (pv 5)) xa_nil)) (xa_cons (xe_callTy hc_tuple snd_tuple (by rfl) T.n_tuple Eb.bb_tuple (xa_cons (xe_var (pv 4)) xa_nil)) xa_nil)))))))))))))
theorem ok_mixed (T : Txt K mg F D C) : FnOk P w K mg base CX0 4 (F 8) (D 8) ["sign", "one", "other"] (spF0 (tbl K C) wp_mixed) := by
  unfold wp_mixed
  exact fnF0 T.f_mixed sc_mixed rfl rfl rfl (fun cdv A outer s H E Z M H0 dl hr => (xss_cons (xs_set (i := 3) sc_mixed.nd rfl (.inl rfl) (xe_callB (fun _ => call_max2 rfl) snd_max2 (by rfl) T.n_max Eb.bb_max (xa_cons (xe_callTy (fun _ => call_int1) snd_int1 (by rfl) T.n_int Eb.bb_int (xa_cons (xe_fld (fo_Bases_start T) (xe_var (pv 1))) xa_nil)) (xa_cons (xe_callTy (fun _ => call_int1) snd_int1 (by rfl) T.n_int Eb.bb_int (xa_cons (xe_fld (fo_Bases_start T) (xe_var (pv 2))) xa_nil)) xa_nil)))) (xss_cons (xs_set (i := 4) sc_mixed.nd rfl (.inl rfl) (xe_fdiv (xe_mul (xe_fld (fo_Bases_period T) (xe_var (pv 1))) (xe_fld (fo_Bases_period T) (xe_var (pv 2)))) (xe_call (ok_common_of T) (hr.mono (by decide)) (by rfl) T.g_common_of T.f_common_of.kp T.b_common_of (xa_cons (xe_fld (fo_Bases_period T) (xe_var (pv 1))) (xa_cons (xe_fld (fo_Bases_period T) (xe_var (pv 2))) xa_nil))))) (xss_cons (xs_lcV (own := [("base", 8)]) (i := 5) rfl sc_mixed.nd rfl rfl (sw_true rfl rfl rfl (by decide +kernel)) (xi_range2 (by rfl) T.n_range (xa_cons (xe_of (C8.pe_gc (by rfl) T.v_LEAST_BASE) (snd_c fun _ => rfl)) (xa_cons (xe_var (pv 3)) xa_nil))) (blkOk_by (N := ["sign", "one", "other", "start", "period", "lone", "marks", "rest", "base"]) (sc := defScope s_mixed) (by decide +kernel)) (fun _ _ _ _ _ => (xg_name (pg_name (i := 8) sc_mixed.nd rfl (.inl rfl)))) (fun _ _ _ _ _ => xts_nil) (fun _ _ _ _ _ => (xe_call (ok_is_mixed T) (hr.mono (by decide)) (by rfl) T.g_is_mixed T.f_is_mixed.kp T.b_is_mixed (xa_cons (xe_var (pv 0)) (xa_cons (xe_call (ok_has_base T) (hr.mono (by decide)) (by rfl) T.g_has_base T.f_has_base.kp T.b_has_base (xa_cons (xe_var (pv 1)) (xa_cons (xe_var (pv 8)) xa_nil))) (xa_cons (xe_call (ok_has_base T) (hr.mono (by decide)) (by rfl) T.g_has_base T.f_has_base.kp T.b_has_base (xa_cons (xe_var (pv 2)) (xa_cons (xe_var (pv 8)) xa_nil))) xa_nil)))))) (xss_cons (xs_setO (i := 6) sc_mixed.nd rfl (.inl rfl) (xl_lst xa_nil)) (xss_cons (xs_for PassesOwn.never rfl (xi_range1 (by rfl) T.n_range (xa_cons (xe_var (pv 4)) xa_nil)) (xg_name (pg_name (i := 7) sc_mixed.nd rfl (.inl rfl))) (xss_one (xs_app (pv 6) (xe_call (ok_is_mixed T) (hr.mono (by decide)) (by rfl) T.g_is_mixed T.f_is_mixed.kp T.b_is_mixed (xa_cons (xe_var (pv 0)) (xa_cons (xe_cmp ho_in snd_in (xe_mod (xe_var (pv 7)) (xe_fld (fo_Bases_period T) (xe_var (pv 1)))) (xe_fld (fo_Bases_rests T) (xe_var (pv 1))) (by rfl)) (xa_cons (xe_cmp ho_in snd_in (xe_mod (xe_var (pv 7)) (xe_fld (fo_Bases_period T) (xe_var (pv 2)))) (xe_fld (fo_Bases_rests T) (xe_var (pv 2))) (by rfl)) xa_nil))))))) (xss_one (xs_frz 6 (xs_ret (xe_call (ok_settled_bases T) (hr.mono (by decide)) (by rfl) T.g_settled_bases T.f_settled_bases.kp T.b_settled_bases (xa_cons (xe_var (pv 5)) (xa_cons (xe_var (pv 6)) xa_nil))))))))))))
theorem ok_Bases_and (T : Txt K mg F D C) : FnOk P w K mg base CX0 5 (F 17) (D 17) ["self", "other"] (spF0 (tbl K C) wp_Bases_and) := by
  unfold wp_Bases_and
  exact fnF0 T.f_Bases_and sc_Bases_and rfl rfl rfl (fun cdv A outer s H E Z M H0 dl hr => (xss_one (xs_ret (xe_call (ok_mixed T) (hr.mono (by decide)) (by rfl) T.g_mixed T.f_mixed.kp T.b_mixed (xa_cons xe_str (xa_cons (xe_var (pv 0)) (xa_cons (xe_var (pv 1)) xa_nil)))))))
theorem ok_Bases_eq (T : Txt K mg F D C) : FnOk P w K mg base CX0 1 (F 22) (D 22) ["self", "other"] (spF0 (tbl K C) wp_Bases_eq) := by
  unfold wp_Bases_eq
  exact fnF0 T.f_Bases_eq sc_Bases_eq rfl rfl rfl (fun cdv A outer s H E Z M H0 dl hr => (xss_cons (xs_if (xt_not (xt_truth (xe_isC (no_Bases T) (sub := [(2, true)]) (su_Bases T) (by rfl) T.n_isinstance (xe_var (pv 1)) (pe_glob (v := .ref (C 2)) (by rfl) T.gc_Bases rfl)) (by intro _; rfl))) (xss_one (xs_ret xe_bl)) xss_nil) (xss_one (xs_ret (xe_cmp (ho_eq hr.units) snd_eq (xe_tup (xa_cons (xe_fld (fo_Bases_start T) (xe_var (pv 0))) (xa_cons (xe_fld (fo_Bases_period T) (xe_var (pv 0))) (xa_cons (xe_fld (fo_Bases_rests T) (xe_var (pv 0))) (xa_cons (xe_fld (fo_Bases_lone T) (xe_var (pv 0))) xa_nil))))) (xe_tup (xa_cons (xe_fld (fo_Bases_start T) (xe_var (pv 1))) (xa_cons (xe_fld (fo_Bases_period T) (xe_var (pv 1))) (xa_cons (xe_fld (fo_Bases_rests T) (xe_var (pv 1))) (xa_cons (xe_fld (fo_Bases_lone T) (xe_var (pv 1))) xa_nil))))) (nomark _))))))
theorem ok_Bases_every (T : Txt K mg F D C) : FnOk P w K mg base CX0 4 (F 13) (D 13) ["cls"] (spF0 (tbl K C) wp_Bases_every) := by
  unfold wp_Bases_every
  exact fnF0 T.f_Bases_every sc_Bases_every rfl rfl rfl (fun cdv A outer s H E Z M H0 dl hr => (xss_one (xs_ret (xe_call (ok_settled_bases T) (hr.mono (by decide)) (by rfl) T.g_settled_bases T.f_settled_bases.kp T.b_settled_bases (xa_cons ((xl_lst xa_nil)).xe (xa_cons ((xl_lst (xa_cons xe_bl xa_nil))).xe xa_nil))))))
theorem ok_Bases_invert (T : Txt K mg F D C) : FnOk P w K mg base CX0 5 (F 21) (D 21) ["self"] (spF0 (tbl K C) wp_Bases_invert) := by
  unfold wp_Bases_invert
  exact fnF0 T.f_Bases_invert sc_Bases_invert rfl rfl rfl (fun cdv A outer s H E Z M H0 dl hr => (xss_one (xs_ret (xe_call (ok_mixed T) (hr.mono (by decide)) (by rfl) T.g_mixed T.f_mixed.kp T.b_mixed (xa_cons xe_str (xa_cons (xe_cmeth0 (by rfl) T.gc_Bases T.cm_Bases_every (ok_Bases_every T) (hr.mono (by decide)) T.b_Bases_every) (xa_cons (xe_var (pv 0)) xa_nil)))))))
theorem ok_Bases_or (T : Txt K mg F D C) : FnOk P w K mg base CX0 5 (F 18) (D 18) ["self", "other"] (spF0 (tbl K C) wp_Bases_or) := by
  unfold wp_Bases_or
  exact fnF0 T.f_Bases_or sc_Bases_or rfl rfl rfl (fun cdv A outer s H E Z M H0 dl hr => (xss_one (xs_ret (xe_call (ok_mixed T) (hr.mono (by decide)) (by rfl) T.g_mixed T.f_mixed.kp T.b_mixed (xa_cons xe_str (xa_cons (xe_var (pv 0)) (xa_cons (xe_var (pv 1)) xa_nil)))))))
theorem ok_Bases_sub (T : Txt K mg F D C) : FnOk P w K mg base CX0 5 (F 19) (D 19) ["self", "other"] (spF0 (tbl K C) wp_Bases_sub) := by
  unfold wp_Bases_sub
  exact fnF0 T.f_Bases_sub sc_Bases_sub rfl rfl rfl (fun cdv A outer s H E Z M H0 dl hr => (xss_one (xs_ret (xe_call (ok_mixed T) (hr.mono (by decide)) (by rfl) T.g_mixed T.f_mixed.kp T.b_mixed (xa_cons xe_str (xa_cons (xe_var (pv 0)) (xa_cons (xe_var (pv 1)) xa_nil)))))))
theorem ok_Bases_xor (T : Txt K mg F D C) : FnOk P w K mg base CX0 5 (F 20) (D 20) ["self", "other"] (spF0 (tbl K C) wp_Bases_xor) := by
  unfold wp_Bases_xor
  exact fnF0 T.f_Bases_xor sc_Bases_xor rfl rfl rfl (fun cdv A outer s H E Z M H0 dl hr => (xss_one (xs_ret (xe_call (ok_mixed T) (hr.mono (by decide)) (by rfl) T.g_mixed T.f_mixed.kp T.b_mixed (xa_cons xe_str (xa_cons (xe_var (pv 0)) (xa_cons (xe_var (pv 1)) xa_nil)))))))
theorem ok__law_pick (T : Txt K mg F D C) : FnOk P w K mg base CX0 2 (F 26) (D 26) ["_law_deal_here", "_law_some"] (spG0 (tbl K C) wp__law_pick) := by
  unfold wp__law_pick
  exact fnG0 T.f__law_pick sc__law_pick rfl rfl rfl (fun cdv A outer s H E Z M H0 dl hr => (xss_one (xs_ret (xe_ix (xe_var (pv 1)) (xe_callG (pv 0) (okd__law_draw T) (hr.mono (by decide)) (by rfl) T.g__law_draw T.f__law_draw.kp T.b__law_draw (xa_cons (xe_callB hc_len snd_len (by rfl) T.n_len Eb.bb_len (xa_cons (xe_var (pv 1)) xa_nil)) xa_nil))))))
theorem ok__law_great (T : Txt K mg F D C) : FnOk P w K mg base CX0 3 (F 34) (D 34) ["_law_deal_here"] (spG0 (tbl K C) wp__law_great) := by
  unfold wp__law_great
  exact fnG0 T.f__law_great sc__law_great rfl rfl rfl (fun cdv A outer s H E Z M H0 dl hr => (xss_cons (xs_set (i := 1) sc__law_great.nd rfl (.inl rfl) (xe_callG (pv 0) (okd__law_draw T) (hr.mono (by decide)) (by rfl) T.g__law_draw T.f__law_draw.kp T.b__law_draw (xa_cons xe_int xa_nil))) (xss_cons (xs_if (xt_cmp (ho_eq hr.units) snd_eq (xe_var (pv 1)) xe_int (nomark _)) (xss_cons (xs_set (i := 2) sc__law_great.nd rfl (.inl rfl) (xe_tup (xa_cons xe_str (xa_cons (xe_add xe_int (xe_callG (pv 0) (okd__law_draw T) (hr.mono (by decide)) (by rfl) T.g__law_draw T.f__law_draw.kp T.b__law_draw (xa_cons xe_int xa_nil))) (xa_cons (xe_callG (pv 0) (okd__law_draw T) (hr.mono (by decide)) (by rfl) T.g__law_draw T.f__law_draw.kp T.b__law_draw (xa_cons xe_int xa_nil)) xa_nil))))) (xss_one (xs_ret (xe_tup (xa_cons (xe_var (pv 2)) (xa_cons (xe_tup (xa_cons xe_str (xa_cons (xe_add xe_int (xe_callG (pv 0) (okd__law_draw T) (hr.mono (by decide)) (by rfl) T.g__law_draw T.f__law_draw.kp T.b__law_draw (xa_cons xe_int xa_nil))) (xa_cons (xe_callG (pv 0) (okd__law_draw T) (hr.mono (by decide)) (by rfl) T.g__law_draw T.f__law_draw.kp T.b__law_draw (xa_cons xe_int xa_nil)) xa_nil)))) xa_nil)))))) xss_nil) (xss_cons (xs_if (xt_cmp (ho_eq hr.units) snd_eq (xe_var (pv 1)) xe_int (nomark _)) (xss_cons (xs_set (i := 2) sc__law_great.nd rfl (.inl rfl) (xe_tup (xa_cons xe_str (xa_cons xe_int (xa_cons (xe_callG (pv 0) (okd__law_draw T) (hr.mono (by decide)) (by rfl) T.g__law_draw T.f__law_draw.kp T.b__law_draw (xa_cons xe_int xa_nil)) xa_nil))))) (xss_one (xs_ret (xe_tup (xa_cons (xe_var (pv 2)) (xa_cons (xe_tup (xa_cons xe_str (xa_cons (xe_callG (pv 0) (ok__law_pick T) (hr.mono (by decide)) (by rfl) T.g__law_pick T.f__law_pick.kp T.b__law_pick (xa_cons ((xl_lst (xa_cons xe_int (xa_cons xe_int (xa_cons xe_int (xa_cons xe_int (xa_cons xe_int xa_nil))))))).xe xa_nil)) (xa_cons (xe_callG (pv 0) (okd__law_draw T) (hr.mono (by decide)) (by rfl) T.g__law_draw T.f__law_draw.kp T.b__law_draw (xa_cons xe_int xa_nil)) xa_nil)))) xa_nil)))))) xss_nil) (xss_cons (xs_set (i := 3) sc__law_great.nd rfl (.inl rfl) (xe_callTy hc_tuple snd_tuple (by rfl) T.n_tuple Eb.bb_tuple (xa_cons ((xl_lc (own := [("_law_k", 4)]) rfl sc__law_great.nd (xi_range1 (by rfl) T.n_range (xa_cons (xe_add xe_int (xe_callG (pv 0) (okd__law_draw T) (hr.mono (by decide)) (by rfl) T.g__law_draw T.f__law_draw.kp T.b__law_draw (xa_cons xe_int xa_nil))) xa_nil)) (blkOk_by (N := ["_law_deal_here", "_law_way", "_law_one", "_law_some", "_law_k"]) (sc := defScope s__law_great) (by decide +kernel)) (fun _ _ _ _ _ => (xg_name (pg_name (i := 4) sc__law_great.nd rfl (.inl rfl)))) (fun _ _ _ _ _ => xts_nil) (fun _ _ _ _ _ => (xe_add xe_int (xe_callG (pv 0) (okd__law_draw T) (hr.mono (by decide)) (by rfl) T.g__law_draw T.f__law_draw.kp T.b__law_draw (xa_cons xe_int xa_nil)))))).xe xa_nil))) (xss_cons (xs_set (i := 2) sc__law_great.nd rfl (.inl rfl) (xe_tup (xa_cons xe_str (xa_cons (xe_tup (xa_cons xe_str (xa_cons (xe_add xe_int (xe_callG (pv 0) (okd__law_draw T) (hr.mono (by decide)) (by rfl) T.g__law_draw T.f__law_draw.kp T.b__law_draw (xa_cons xe_int xa_nil))) xa_nil))) (xa_cons (xe_tup (xa_cons xe_str (xa_cons (xe_add xe_int (xe_callG (pv 0) (okd__law_draw T) (hr.mono (by decide)) (by rfl) T.g__law_draw T.f__law_draw.kp T.b__law_draw (xa_cons xe_int xa_nil))) (xa_cons xe_int xa_nil)))) xa_nil))))) (xss_one (xs_ret (xe_tup (xa_cons (xe_var (pv 2)) (xa_cons (xe_tup (xa_cons xe_str (xa_cons (xe_tup (xa_cons xe_str (xa_cons (xe_var (pv 3)) xa_nil))) (xa_cons (xe_tup (xa_cons xe_str (xa_cons (xe_add xe_int (xe_callG (pv 0) (okd__law_draw T) (hr.mono (by decide)) (by rfl) T.g__law_draw T.f__law_draw.kp T.b__law_draw (xa_cons xe_int xa_nil))) (xa_cons xe_int xa_nil)))) xa_nil)))) xa_nil)))))))))))
theorem ok__law_in (T : Txt K mg F D C) : ∀ n, FnOk P w K mg base CX0 (1 + n) (F 29) (D 29) ["_law_model_here", "_law_base"] (spF0 (tbl K C) (wp__law_in n)) := by
  intro n
  induction n with
  | zero =>
    rw [wpz__law_in]
    exact fnF0 (k := 0) T.f__law_in sc__law_in rfl rfl rfl (fun cdv A outer s H E Z M H0 dl hr => xss_never _ (List.cons_ne_nil _ _))
  | succ n ih =>
    rw [wps__law_in]
    exact fnF0 (k := 1 + n) T.f__law_in sc__law_in rfl rfl rfl (fun cdv A outer s H E Z M H0 dl hr => (xss_cons (xs_if (xt_cmp (ho_eq hr.units) snd_eq (xe_ix (xe_var (pv 0)) xe_int) xe_str (nomark _)) (xss_one (xs_ret (xe_cmp ho_in snd_in (xe_var (pv 1)) (xe_ix (xe_var (pv 0)) xe_int) (by rfl)))) xss_nil) (xss_cons (xs_if (xt_cmp (ho_eq hr.units) snd_eq (xe_ix (xe_var (pv 0)) xe_int) xe_str (nomark _)) (xss_one (xs_ret (xe_cmp (ho_eq hr.units) snd_eq (xe_mod (xe_callTy (fun _ => call_int1) snd_int1 (by rfl) T.n_int Eb.bb_int (xa_cons (xe_sub (xe_var (pv 1)) (xe_ix (xe_var (pv 0)) xe_int)) xa_nil)) (xe_ix (xe_var (pv 0)) xe_int)) xe_int (nomark _)))) xss_nil) (xss_cons (xs_if (xt_cmp ho_in snd_in (xe_ix (xe_var (pv 0)) xe_int) (xe_tup (xa_cons xe_str (xa_cons xe_str xa_nil))) (by rfl)) (xss_one (xs_ret (xe_cmp (ho_eq hr.units) snd_eq (xe_ix (xe_var (pv 0)) xe_int) xe_str (nomark _)))) xss_nil) (xss_cons (xs_if (xt_cmp (ho_eq hr.units) snd_eq (xe_ix (xe_var (pv 0)) xe_int) xe_str (nomark _)) (xss_one (xs_ret (xe_cmp (fun _ => op_ge) snd_ge (xe_var (pv 1)) (xe_ix (xe_var (pv 0)) xe_int) (nomark _)))) xss_nil) (xss_cons (xs_set (i := 2) sc__law_in.nd rfl (.inl rfl) (xe_call ih (hr.mono (by omega)) (by rfl) T.g__law_in T.f__law_in.kp T.b__law_in (xa_cons (xe_ix (xe_var (pv 0)) xe_int) (xa_cons (xe_var (pv 1)) xa_nil)))) (xss_cons (xs_if (xt_cmp (ho_eq hr.units) snd_eq (xe_ix (xe_var (pv 0)) xe_int) xe_str (nomark _)) (xss_one (xs_ret (xe_notT (xe_var (pv 2))))) xss_nil) (xss_cons (xs_set (i := 3) sc__law_in.nd rfl (.inl rfl) (xe_call ih (hr.mono (by omega)) (by rfl) T.g__law_in T.f__law_in.kp T.b__law_in (xa_cons (xe_ix (xe_var (pv 0)) xe_int) (xa_cons (xe_var (pv 1)) xa_nil)))) (xss_one (xs_ret (xe_dict hr.units (xp_cons (xe_andT (xe_var (pv 2)) (xe_one (xe_var (pv 3)))) (xp_cons (xe_orT (xe_var (pv 2)) (xe_one (xe_var (pv 3)))) (xp_cons (xe_andT (xe_var (pv 2)) (xe_one (xe_notT (xe_var (pv 3))))) (xp_cons (xe_cmp (ho_ne hr.units) snd_ne (xe_var (pv 2)) (xe_var (pv 3)) (nomark _)) xp_nil)))) (xe_ix (xe_var (pv 0)) xe_int))))))))))))
theorem ok__law_span (T : Txt K mg F D C) : ∀ n, FnOk P w K mg base CX0 (1 + n) (F 30) (D 30) ["_law_model_here"] (spF0 (tbl K C) (wp__law_span n)) := by
  intro n
  induction n with
  | zero =>
    rw [wpz__law_span]
    exact fnF0 (k := 0) T.f__law_span sc__law_span rfl rfl rfl (fun cdv A outer s H E Z M H0 dl hr => xss_never _ (List.cons_ne_nil _ _))
  | succ n ih =>
    rw [wps__law_span]
    exact fnF0 (k := 1 + n) T.f__law_span sc__law_span rfl rfl rfl (fun cdv A outer s H E Z M H0 dl hr => (xss_cons (xs_if (xt_cmp (ho_eq hr.units) snd_eq (xe_ix (xe_var (pv 0)) xe_int) xe_str (nomark _)) (xss_cons (xs_set (i := 1) sc__law_span.nd rfl (.inl rfl) xe_int) (xss_cons (xs_for PassesOwn.never rfl (xi_tup (xe_ix (xe_var (pv 0)) xe_int)) (xg_name (pg_name (i := 2) sc__law_span.nd rfl (.inl rfl))) (xss_one (xs_set (i := 1) sc__law_span.nd rfl (.inl rfl) (xe_callB (fun _ => call_max2 rfl) snd_max2 (by rfl) T.n_max Eb.bb_max (xa_cons (xe_callTy (fun _ => call_int1) snd_int1 (by rfl) T.n_int Eb.bb_int (xa_cons (xe_var (pv 1)) xa_nil)) (xa_cons (xe_callTy (fun _ => call_int1) snd_int1 (by rfl) T.n_int Eb.bb_int (xa_cons (xe_var (pv 2)) xa_nil)) xa_nil)))))) (xss_one (xs_ret (xe_tup (xa_cons (xe_add (xe_var (pv 1)) xe_int) (xa_cons xe_int xa_nil))))))) xss_nil) (xss_cons (xs_if (xt_cmp (ho_eq hr.units) snd_eq (xe_ix (xe_var (pv 0)) xe_int) xe_str (nomark _)) (xss_one (xs_ret (xe_tup (xa_cons (xe_callB (fun _ => call_max2 rfl) snd_max2 (by rfl) T.n_max Eb.bb_max (xa_cons xe_int (xa_cons (xe_callTy (fun _ => call_int1) snd_int1 (by rfl) T.n_int Eb.bb_int (xa_cons (xe_ix (xe_var (pv 0)) xe_int) xa_nil)) xa_nil))) (xa_cons xe_int xa_nil))))) xss_nil) (xss_cons (xs_if (xt_cmp (ho_eq hr.units) snd_eq (xe_callB hc_len snd_len (by rfl) T.n_len Eb.bb_len (xa_cons (xe_var (pv 0)) xa_nil)) xe_int (nomark _)) (xss_one (xs_ret (xe_tup (xa_cons xe_int (xa_cons xe_int xa_nil))))) xss_nil) (xss_cons (xs_if (xt_cmp (ho_eq hr.units) snd_eq (xe_ix (xe_var (pv 0)) xe_int) xe_str (nomark _)) (xss_one (xs_ret (xe_tup (xa_cons xe_int (xa_cons (xe_ix (xe_var (pv 0)) xe_int) xa_nil))))) xss_nil) (xss_cons (xs_set (i := 3) sc__law_span.nd rfl (.inl rfl) (xe_call ih (hr.mono (by omega)) (by rfl) T.g__law_span T.f__law_span.kp T.b__law_span (xa_cons (xe_ix (xe_var (pv 0)) xe_int) xa_nil))) (xss_cons (xs_if (xt_cmp (ho_eq hr.units) snd_eq (xe_ix (xe_var (pv 0)) xe_int) xe_str (nomark _)) (xss_one (xs_ret (xe_var (pv 3)))) xss_nil) (xss_cons (xs_set (i := 4) sc__law_span.nd rfl (.inl rfl) (xe_call ih (hr.mono (by omega)) (by rfl) T.g__law_span T.f__law_span.kp T.b__law_span (xa_cons (xe_ix (xe_var (pv 0)) xe_int) xa_nil))) (xss_cons (xs_set (i := 5) sc__law_span.nd rfl (.inl rfl) (xe_ix (xe_var (pv 3)) xe_int)) (xss_cons (xs_while PassesOwn.never (xt_cmp (ho_ne hr.units) snd_ne (xe_mod (xe_callTy (fun _ => call_int1) snd_int1 (by rfl) T.n_int Eb.bb_int (xa_cons (xe_var (pv 5)) xa_nil)) (xe_ix (xe_var (pv 4)) xe_int)) xe_int (nomark _)) (xss_one (xs_set (i := 5) sc__law_span.nd rfl (.inl rfl) (xe_add (xe_var (pv 5)) (xe_ix (xe_var (pv 3)) xe_int))))) (xss_one (xs_ret (xe_tup (xa_cons (xe_callB (fun _ => call_max2 rfl) snd_max2 (by rfl) T.n_max Eb.bb_max (xa_cons (xe_callTy (fun _ => call_int1) snd_int1 (by rfl) T.n_int Eb.bb_int (xa_cons (xe_ix (xe_var (pv 3)) xe_int) xa_nil)) (xa_cons (xe_callTy (fun _ => call_int1) snd_int1 (by rfl) T.n_int Eb.bb_int (xa_cons (xe_ix (xe_var (pv 4)) xe_int) xa_nil)) xa_nil))) (xa_cons (xe_var (pv 5)) xa_nil)))))))))))))))
theorem ok__law_told (T : Txt K mg F D C) : FnOk P w K mg base CX0 7 (F 31) (D 31) ["_law_model_here"] (spF0 (tbl K C) wp__law_told) := by
  unfold wp__law_told
  exact fnF0 T.f__law_told sc__law_told rfl rfl rfl (fun cdv A outer s H E Z M H0 dl hr => (xss_cons (xs_asg (xe_call (ok__law_span T 5) (hr.mono (by decide)) (by rfl) T.g__law_span T.f__law_span.kp T.b__law_span (xa_cons (xe_var (pv 0)) xa_nil)) (xg_tup rfl (xgs_cons (pg_name (i := 1) sc__law_told.nd rfl (.inl rfl)) (xgs_cons (pg_name (i := 2) sc__law_told.nd rfl (.inr rfl)) xgs_nil)))) (xss_cons (xs_set (i := 3) sc__law_told.nd rfl (.inr rfl) ((xl_lc (own := [("_law_base", 8)]) rfl sc__law_told.nd (xi_range1 (by rfl) T.n_range (xa_cons (xe_add (xe_var (pv 1)) (xe_mul xe_int (xe_var (pv 2)))) xa_nil)) (blkOk_by (N := ["_law_model_here", "_law_begin", "_law_period", "_law_marks", "_law_tail", "_law_bottom", "_law_start", "_law_rests", "_law_base", "_law_d"]) (sc := defScope s__law_told) (by decide +kernel)) (fun _ _ _ _ _ => (xg_name (pg_name (i := 8) sc__law_told.nd rfl (.inl rfl)))) (fun _ _ _ _ _ => xts_nil) (fun _ _ _ _ _ => (xe_call (ok__law_in T 5) (hr.mono (by decide)) (by rfl) T.g__law_in T.f__law_in.kp T.b__law_in (xa_cons (xe_var (pv 0)) (xa_cons (xe_var (pv 8)) xa_nil)))))).xe) (xss_cons (xs_set (i := 4) sc__law_told.nd rfl (.inr rfl) (xe_slice (xe_var (pv 3)) (xo_some (xe_var (pv 1))) (xo_some (xe_add (xe_var (pv 1)) (xe_var (pv 2)))))) (xss_cons (xs_set (i := 5) sc__law_told.nd rfl (.inr rfl) (xe_ix ((xl_lc (own := [("_law_d", 9)]) rfl sc__law_told.nd (xi_range2 (by rfl) T.n_range (xa_cons xe_int (xa_cons (xe_add (xe_var (pv 2)) xe_int) xa_nil))) (blkOk_by (N := ["_law_model_here", "_law_begin", "_law_period", "_law_marks", "_law_tail", "_law_bottom", "_law_start", "_law_rests", "_law_base", "_law_d"]) (sc := defScope s__law_told) (by decide +kernel)) (fun _ _ _ _ _ => (xg_name (pg_name (i := 9) sc__law_told.nd rfl (.inl rfl)))) (fun _ _ _ _ _ => (xts_one (XW.xt (xw_and (xt_cmp (ho_eq hr.units) snd_eq (xe_mod (xe_callTy (fun _ => call_int1) snd_int1 (by rfl) T.n_int Eb.bb_int (xa_cons (xe_var (pv 2)) xa_nil)) (xe_var (pv 9))) xe_int (nomark _)) (xw_and1 (xt_cmp (ho_eq hr.units) snd_eq (xe_var (pv 4)) (xe_add (xe_slice (xe_var (pv 4)) (xo_some (xe_var (pv 9))) xo_none) (xe_slice (xe_var (pv 4)) xo_none (xo_some (xe_var (pv 9))))) (nomark _))))))) (fun _ _ _ _ _ => (xe_var (pv 9))))).xe xe_int)) (xss_cons (xs_set (i := 6) sc__law_told.nd rfl (.inl rfl) (xe_var (pv 1))) (xss_cons (xs_while PassesOwn.never (XW.xt (xw_and (xt_cmp (fun _ => op_gt) snd_gt (xe_var (pv 6)) xe_int (nomark _)) (xw_and1 (xt_cmp (ho_eq hr.units) snd_eq (xe_ix (xe_var (pv 3)) (xe_sub (xe_var (pv 6)) xe_int)) (xe_ix (xe_var (pv 3)) (xe_add (xe_sub (xe_var (pv 6)) xe_int) (xe_var (pv 5)))) (nomark _))))) (xss_one (xs_set (i := 6) sc__law_told.nd rfl (.inl rfl) (xe_sub (xe_var (pv 6)) xe_int)))) (xss_cons (xs_set (i := 7) sc__law_told.nd rfl (.inl rfl) ((xl_callB hc_sorted snd_sorted (by rfl) T.n_sorted Eb.bb_sorted (xa_cons ((xl_lc (own := [("_law_base", 8)]) rfl sc__law_told.nd (xi_range2 (by rfl) T.n_range (xa_cons (xe_var (pv 6)) (xa_cons (xe_add (xe_var (pv 6)) (xe_var (pv 5))) xa_nil))) (blkOk_by (N := ["_law_model_here", "_law_begin", "_law_period", "_law_marks", "_law_tail", "_law_bottom", "_law_start", "_law_rests", "_law_base", "_law_d"]) (sc := defScope s__law_told) (by decide +kernel)) (fun _ _ _ _ _ => (xg_name (pg_name (i := 8) sc__law_told.nd rfl (.inl rfl)))) (fun _ _ _ _ _ => (xts_one (xt_truth (xe_ix (xe_var (pv 3)) (xe_var (pv 8))) (by intro _; rfl)))) (fun _ _ _ _ _ => (xe_callTy (fun _ => call_int1) snd_int1 (by rfl) T.n_int Eb.bb_int (xa_cons (xe_mod (xe_callTy (fun _ => call_int1) snd_int1 (by rfl) T.n_int Eb.bb_int (xa_cons (xe_var (pv 8)) xa_nil)) (xe_var (pv 5))) xa_nil))))).xe xa_nil))).xe) (xss_one (xs_ret (xe_tup (xa_cons (xe_var (pv 6)) (xa_cons (xe_var (pv 5)) (xa_cons (xe_callTy hc_tuple snd_tuple (by rfl) T.n_tuple Eb.bb_tuple (xa_cons (xe_var (pv 7)) xa_nil)) (xa_cons (xe_callTy hc_tuple snd_tuple (by rfl) T.n_tuple Eb.bb_tuple (xa_cons ((xl_lc (own := [("_law_base", 8)]) rfl sc__law_told.nd (xi_range2 (by rfl) T.n_range (xa_cons xe_int (xa_cons (xe_var (pv 6)) xa_nil))) (blkOk_by (N := ["_law_model_here", "_law_begin", "_law_period", "_law_marks", "_law_tail", "_law_bottom", "_law_start", "_law_rests", "_law_base", "_law_d"]) (sc := defScope s__law_told) (by decide +kernel)) (fun _ _ _ _ _ => (xg_name (pg_name (i := 8) sc__law_told.nd rfl (.inl rfl)))) (fun _ _ _ _ _ => (xts_one (xt_truth (xe_ix (xe_var (pv 3)) (xe_var (pv 8))) (by intro _; rfl)))) (fun _ _ _ _ _ => (xe_var (pv 8))))).xe xa_nil)) xa_nil)))))))))))))))
theorem ok__law_is (T : Txt K mg F D C) : FnG P w K mg base CX0 8 (F 33) (D 33) ["_law_bases", "_law_model_here"] (spF0 (tbl K C) wp__law_is) := by
  unfold wp__law_is
  exact fnF0g T.f__law_is sc__law_is rfl rfl rfl (fun cdv A outer s H E Z M H0 dl hG hr => (xss_one (xs_ret (xe_cmp (ho_eq hr.units) snd_eq (xe_callB (hc_repr hG hr.units) snd_repr (by rfl) T.n_repr Eb.bb_repr (xa_cons (xe_tup (xa_cons (xe_fld (fo_Bases_start T) (xe_var (pv 0))) (xa_cons (xe_fld (fo_Bases_period T) (xe_var (pv 0))) (xa_cons (xe_fld (fo_Bases_rests T) (xe_var (pv 0))) (xa_cons (xe_fld (fo_Bases_lone T) (xe_var (pv 0))) xa_nil))))) xa_nil)) (xe_callB (hc_repr hG hr.units) snd_repr (by rfl) T.n_repr Eb.bb_repr (xa_cons (xe_call (ok__law_told T) (hr.mono (by decide)) (by rfl) T.g__law_told T.f__law_told.kp T.b__law_told (xa_cons (xe_var (pv 1)) xa_nil)) xa_nil)) (nomark _)))))

end
end K31

namespace K31
open PySem PySem.Spec PyProof.Rows L2 Eb
section
variable {P : Program} {w : World} {K : PySem.W.Frag} {mg : Str → Option Value} {base : Heap} {F : Nat → Addr} {D : Nat → FuncData} {C I : Nat → Addr}
theorem ok_Bases_none (T : Txt K mg F D C) : FnOk P w K mg base CX0 4 (F 12) (D 12) ["cls"] (spF0 (tbl K C) wp_Bases_none) := by
  unfold wp_Bases_none
  exact fnF0 T.f_Bases_none sc_Bases_none rfl rfl rfl (fun cdv A outer s H E Z M H0 dl hr => (xss_one (xs_ret (xe_call (ok_settled_bases T) (hr.mono (by decide)) (by rfl) T.g_settled_bases T.f_settled_bases.kp T.b_settled_bases (xa_cons ((xl_lst xa_nil)).xe (xa_cons ((xl_lst (xa_cons xe_bl xa_nil))).xe xa_nil))))))
theorem ok_is_integer (T : Txt K mg F D C) : FnOk P w K mg base CX0 1 (F 1) (D 1) ["value"] (spF0 (tbl K C) wp_is_integer) := by
  unfold wp_is_integer
  exact fnF0 T.f_is_integer sc_is_integer rfl rfl rfl (fun cdv A outer s H E Z M H0 dl hr => (xss_one (xs_ret (xe_andT (xe_isT (n := .int) (cs := [2]) (is_int T) (by rfl) T.n_isinstance (xe_var (pv 0)) (pe_bltn (v := .ty "int") (by rfl) T.n_int Eb.bb_int rfl)) (xe_one (xe_notT (xe_isT (n := .bool) (cs := [2]) (is_bool T) (by rfl) T.n_isinstance (xe_var (pv 0)) (pe_bltn (v := .ty "bool") (by rfl) T.n_bool Eb.bb_bool rfl))))))))
theorem ok_is_base (T : Txt K mg F D C) : FnOk P w K mg base CX0 2 (F 2) (D 2) ["value"] (spF0 (tbl K C) wp_is_base) := by
  unfold wp_is_base
  exact fnF0 T.f_is_base sc_is_base rfl rfl rfl (fun cdv A outer s H E Z M H0 dl hr => (xss_one (xs_ret (xe_andT (xe_call (ok_is_integer T) (hr.mono (by decide)) (by rfl) T.g_is_integer T.f_is_integer.kp T.b_is_integer (xa_cons (xe_var (pv 0)) xa_nil)) (xe_one (xe_cmp (fun _ => op_ge) snd_ge (xe_var (pv 0)) (xe_of (C8.pe_gc (by rfl) T.v_LEAST_BASE) (snd_c fun _ => rfl)) (nomark _)))))))
theorem ok_Bases_of (T : Txt K mg F D C) : FnOk P w K mg base CX0 3 (F 14) (D 14) ["cls", "bases"] (spF0 (tbl K C) wp_Bases_of) := by
  unfold wp_Bases_of
  exact fnF0 T.f_Bases_of sc_Bases_of rfl rfl rfl (fun cdv A outer s H E Z M H0 dl hr => (xss_cons (xs_for PassesOwn.never rfl (xi_tup (xe_var (pv 1))) (xg_name (pg_name (i := 2) sc_Bases_of.nd rfl (.inl rfl))) (xss_one (xs_if (xt_not (xt_truth (xe_call (ok_is_base T) (hr.mono (by decide)) (by rfl) T.g_is_base T.f_is_base.kp T.b_is_base (xa_cons (xe_var (pv 2)) xa_nil)) (by intro _; rfl))) (xss_one xs_never) xss_nil))) (xss_cons (xs_set (i := 3) sc_Bases_of.nd rfl (.inl rfl) (xe_callTy hc_tuple snd_tuple (by rfl) T.n_tuple Eb.bb_tuple (xa_cons ((xl_sortSet (by rfl) T.n_sorted (by rfl) T.n_set ((xl_lc (own := [("base", 2)]) rfl sc_Bases_of.nd (xi_tup (xe_var (pv 1))) (blkOk_by (N := ["cls", "bases", "base", "lone"]) (sc := defScope s_Bases_of) (by decide +kernel)) (fun _ _ _ _ _ => (xg_name (pg_name (i := 2) sc_Bases_of.nd rfl (.inl rfl)))) (fun _ _ _ _ _ => xts_nil) (fun _ _ _ _ _ => (xe_callTy (fun _ => call_int1) snd_int1 (by rfl) T.n_int Eb.bb_int (xa_cons (xe_var (pv 2)) xa_nil))))).xe)).xe xa_nil))) (xss_one (xs_ret (xe_makeL T.mk_Bases (ok_Bases_init T) (hr.mono (by decide)) (pv 0) T.b_Bases_init (xa_cons (xe_if (xt_cmp (fun _ => op_gt) snd_gt (xe_callB hc_len snd_len (by rfl) T.n_len Eb.bb_len (xa_cons (xe_var (pv 3)) xa_nil)) xe_int (nomark _)) (xe_add (xe_ix (xe_var (pv 3)) (xe_neg xe_int)) xe_int) (xe_of (C8.pe_gc (by rfl) T.v_LEAST_BASE) (snd_c fun _ => rfl))) (xa_cons xe_int (xa_cons (xe_tup xa_nil) (xa_cons (xe_var (pv 3)) xa_nil))))))))))
theorem ok_Bases_rest (T : Txt K mg F D C) : FnOk P w K mg base CX0 4 (F 15) (D 15) ["cls", "period", "rest"] (spF0 (tbl K C) wp_Bases_rest) := by
  unfold wp_Bases_rest
  exact fnF0 T.f_Bases_rest sc_Bases_rest rfl rfl rfl (fun cdv A outer s H E Z M H0 dl hr => (xss_one (xs_ret (xe_call (ok_settled_bases T) (hr.mono (by decide)) (by rfl) T.g_settled_bases T.f_settled_bases.kp T.b_settled_bases (xa_cons ((xl_lst xa_nil)).xe (xa_cons ((xl_lc (own := [("one", 3)]) rfl sc_Bases_rest.nd (xi_range1 (by rfl) T.n_range (xa_cons (xe_var (pv 1)) xa_nil)) (blkOk_by (N := ["cls", "period", "rest", "one"]) (sc := defScope s_Bases_rest) (by decide +kernel)) (fun _ _ _ _ _ => (xg_name (pg_name (i := 3) sc_Bases_rest.nd rfl (.inl rfl)))) (fun _ _ _ _ _ => xts_nil) (fun _ _ _ _ _ => (xe_cmp (ho_eq hr.units) snd_eq (xe_var (pv 3)) (xe_mod (xe_var (pv 2)) (xe_var (pv 1))) (nomark _))))).xe xa_nil))))))
theorem ok_Bases_upward (T : Txt K mg F D C) : FnOk P w K mg base CX0 3 (F 16) (D 16) ["cls", "first"] (spF0 (tbl K C) wp_Bases_upward) := by
  unfold wp_Bases_upward
  exact fnF0 T.f_Bases_upward sc_Bases_upward rfl rfl rfl (fun cdv A outer s H E Z M H0 dl hr => (xss_one (xs_ret (xe_makeL T.mk_Bases (ok_Bases_init T) (hr.mono (by decide)) (pv 0) T.b_Bases_init (xa_cons (xe_callB (fun _ => call_max2 rfl) snd_max2 (by rfl) T.n_max Eb.bb_max (xa_cons (xe_of (C8.pe_gc (by rfl) T.v_LEAST_BASE) (snd_c fun _ => rfl)) (xa_cons (xe_callTy (fun _ => call_int1) snd_int1 (by rfl) T.n_int Eb.bb_int (xa_cons (xe_var (pv 1)) xa_nil)) xa_nil))) (xa_cons xe_int (xa_cons (xe_tup (xa_cons xe_int xa_nil)) (xa_cons (xe_tup xa_nil) xa_nil))))))))
theorem ok__law_set_of (T : Txt K mg F D C) : ∀ n, FnOk P w K mg base CX0 (5 + n) (F 32) (D 32) ["_law_model_here"] (spF0 (tbl K C) (wp__law_set_of n)) := by
  intro n
  induction n with
  | zero =>
    rw [wpz__law_set_of]
    exact fnF0 (k := 4) T.f__law_set_of sc__law_set_of rfl rfl rfl (fun cdv A outer s H E Z M H0 dl hr => xss_never _ (List.cons_ne_nil _ _))
  | succ n ih =>
    rw [wps__law_set_of]
    exact fnF0 (k := 5 + n) T.f__law_set_of sc__law_set_of rfl rfl rfl (fun cdv A outer s H E Z M H0 dl hr => (xss_cons (xs_if (xt_cmp (ho_eq hr.units) snd_eq (xe_ix (xe_var (pv 0)) xe_int) xe_str (nomark _)) (xss_one (xs_ret (xe_cmeth (by rfl) T.gc_Bases T.cm_Bases_of (ok_Bases_of T) (hr.mono (by omega)) T.b_Bases_of (xa_cons (xe_ix (xe_var (pv 0)) xe_int) xa_nil)))) xss_nil) (xss_cons (xs_if (xt_cmp (ho_eq hr.units) snd_eq (xe_ix (xe_var (pv 0)) xe_int) xe_str (nomark _)) (xss_one (xs_ret (xe_cmeth (by rfl) T.gc_Bases T.cm_Bases_rest (ok_Bases_rest T) (hr.mono (by omega)) T.b_Bases_rest (xa_cons (xe_ix (xe_var (pv 0)) xe_int) (xa_cons (xe_ix (xe_var (pv 0)) xe_int) xa_nil))))) xss_nil) (xss_cons (xs_if (xt_cmp (ho_eq hr.units) snd_eq (xe_ix (xe_var (pv 0)) xe_int) xe_str (nomark _)) (xss_one (xs_ret (xe_cmeth (by rfl) T.gc_Bases T.cm_Bases_upward (ok_Bases_upward T) (hr.mono (by omega)) T.b_Bases_upward (xa_cons (xe_ix (xe_var (pv 0)) xe_int) xa_nil)))) xss_nil) (xss_cons (xs_if (xt_cmp (ho_eq hr.units) snd_eq (xe_callB hc_len snd_len (by rfl) T.n_len Eb.bb_len (xa_cons (xe_var (pv 0)) xa_nil)) xe_int (nomark _)) (xss_one (xs_ret (xe_if (xt_cmp (ho_eq hr.units) snd_eq (xe_ix (xe_var (pv 0)) xe_int) xe_str (nomark _)) (xe_cmeth0 (by rfl) T.gc_Bases T.cm_Bases_none (ok_Bases_none T) (hr.mono (by omega)) T.b_Bases_none) (xe_cmeth0 (by rfl) T.gc_Bases T.cm_Bases_every (ok_Bases_every T) (hr.mono (by omega)) T.b_Bases_every)))) xss_nil) (xss_cons (xs_set (i := 1) sc__law_set_of.nd rfl (.inl rfl) (xe_call ih (hr.mono (by omega)) (by rfl) T.g__law_set_of T.f__law_set_of.kp T.b__law_set_of (xa_cons (xe_ix (xe_var (pv 0)) xe_int) xa_nil))) (xss_cons (xs_if (xt_cmp (ho_eq hr.units) snd_eq (xe_ix (xe_var (pv 0)) xe_int) xe_str (nomark _)) (xss_one (xs_ret (xe_un (fun _ => un_invO T.me_Bases_invert.at_ T.me_Bases_invert.fn (raw0 (ok_Bases_invert T) T.b_Bases_invert) (hr.mono (by omega)) pass0) (snd_un1 (E := E0)) (xe_var (pv 1))))) xss_nil) (xss_cons (xs_set (i := 2) sc__law_set_of.nd rfl (.inl rfl) (xe_call ih (hr.mono (by omega)) (by rfl) T.g__law_set_of T.f__law_set_of.kp T.b__law_set_of (xa_cons (xe_ix (xe_var (pv 0)) xe_int) xa_nil))) (xss_cons (xs_if (xt_cmp (ho_eq hr.units) snd_eq (xe_ix (xe_var (pv 0)) xe_int) xe_str (nomark _)) (xss_one (xs_ret (xe_op (fun _ => opE (op_bin2 T.sf_Bases T.me_Bases_and.at_ T.me_Bases_and.fn (raw0 (ok_Bases_and T) T.b_Bases_and) (hr.mono (by omega)) pass0) (op_binX T.sf_Bases T.me_Bases_and.at_ T.me_Bases_and.fn T.re_Bases_and T.io_Bases (raw0 (ok_Bases_and T) T.b_Bases_and) (hr.mono (by omega)) pass0)) (snd_opA (E := E0)) (xe_var (pv 1)) (xe_var (pv 2))))) xss_nil) (xss_cons (xs_if (xt_cmp (ho_eq hr.units) snd_eq (xe_ix (xe_var (pv 0)) xe_int) xe_str (nomark _)) (xss_one (xs_ret (xe_op (fun _ => opE (op_bin2 T.sf_Bases T.me_Bases_or.at_ T.me_Bases_or.fn (raw0 (ok_Bases_or T) T.b_Bases_or) (hr.mono (by omega)) pass0) (op_binX T.sf_Bases T.me_Bases_or.at_ T.me_Bases_or.fn T.re_Bases_or T.io_Bases (raw0 (ok_Bases_or T) T.b_Bases_or) (hr.mono (by omega)) pass0)) (snd_opA (E := E0)) (xe_var (pv 1)) (xe_var (pv 2))))) xss_nil) (xss_one (xs_ret (xe_if (xt_cmp (ho_eq hr.units) snd_eq (xe_ix (xe_var (pv 0)) xe_int) xe_str (nomark _)) (xe_op (fun _ => opE (op_bin2 T.sf_Bases T.me_Bases_sub.at_ T.me_Bases_sub.fn (raw0 (ok_Bases_sub T) T.b_Bases_sub) (hr.mono (by omega)) pass0) (op_binX T.sf_Bases T.me_Bases_sub.at_ T.me_Bases_sub.fn T.re_Bases_sub T.io_Bases (raw0 (ok_Bases_sub T) T.b_Bases_sub) (hr.mono (by omega)) pass0)) (snd_opA (E := E0)) (xe_var (pv 1)) (xe_var (pv 2))) (xe_op (fun _ => opE (op_bin2 T.sf_Bases T.me_Bases_xor.at_ T.me_Bases_xor.fn (raw0 (ok_Bases_xor T) T.b_Bases_xor) (hr.mono (by omega)) pass0) (op_binX T.sf_Bases T.me_Bases_xor.at_ T.me_Bases_xor.fn T.re_Bases_xor T.io_Bases (raw0 (ok_Bases_xor T) T.b_Bases_xor) (hr.mono (by omega)) pass0)) (snd_opA (E := E0)) (xe_var (pv 1)) (xe_var (pv 2))))))))))))))))
theorem ok__law_great_right (T : Txt K mg F D C) : FnG P w K mg base CX0 11 (F 35) (D 35) ["_law_deal_here"] (spG0 (tbl K C) wp__law_great_right) := by
  unfold wp__law_great_right
  exact fnG0g T.f__law_great_right sc__law_great_right rfl rfl rfl (fun cdv A outer s H E Z M H0 dl hG hr => (xss_cons (xs_asg (xe_callG (pv 0) (ok__law_great T) (hr.mono (by decide)) (by rfl) T.g__law_great T.f__law_great.kp T.b__law_great xa_nil) (xg_tup rfl (xgs_cons (pg_name (i := 1) sc__law_great_right.nd rfl (.inl rfl)) (xgs_cons (pg_name (i := 2) sc__law_great_right.nd rfl (.inl rfl)) xgs_nil)))) (xss_cons (xs_par3 (i := 3) (j := 4) (l := 5) (by rfl) sc__law_great_right.nd rfl rfl rfl (by decide) (by decide) (by decide) rfl rfl rfl (xa_cons (xe_call (ok__law_set_of T 5) (hr.mono (by decide)) (by rfl) T.g__law_set_of T.f__law_set_of.kp T.b__law_set_of (xa_cons (xe_var (pv 1)) xa_nil)) (xa_cons (xe_call (ok__law_set_of T 5) (hr.mono (by decide)) (by rfl) T.g__law_set_of T.f__law_set_of.kp T.b__law_set_of (xa_cons (xe_var (pv 2)) xa_nil)) (xa_cons (xe_callG (pv 0) (ok__law_pick T) (hr.mono (by decide)) (by rfl) T.g__law_pick T.f__law_pick.kp T.b__law_pick (xa_cons xe_str xa_nil)) xa_nil))) (by rfl)) (xss_cons (xs_set (i := 6) sc__law_great_right.nd rfl (.inl rfl) (xe_if (xt_cmp (ho_eq hr.units) snd_eq (xe_var (pv 5)) xe_str (nomark _)) (xe_op (fun _ => opE (op_bin2 T.sf_Bases T.me_Bases_and.at_ T.me_Bases_and.fn (raw0 (ok_Bases_and T) T.b_Bases_and) (hr.mono (by decide)) pass0) (op_binX T.sf_Bases T.me_Bases_and.at_ T.me_Bases_and.fn T.re_Bases_and T.io_Bases (raw0 (ok_Bases_and T) T.b_Bases_and) (hr.mono (by decide)) pass0)) (snd_opA (E := E0)) (xe_var (pv 3)) (xe_var (pv 4))) (xe_if (xt_cmp (ho_eq hr.units) snd_eq (xe_var (pv 5)) xe_str (nomark _)) (xe_op (fun _ => opE (op_bin2 T.sf_Bases T.me_Bases_or.at_ T.me_Bases_or.fn (raw0 (ok_Bases_or T) T.b_Bases_or) (hr.mono (by decide)) pass0) (op_binX T.sf_Bases T.me_Bases_or.at_ T.me_Bases_or.fn T.re_Bases_or T.io_Bases (raw0 (ok_Bases_or T) T.b_Bases_or) (hr.mono (by decide)) pass0)) (snd_opA (E := E0)) (xe_var (pv 3)) (xe_var (pv 4))) (xe_if (xt_cmp (ho_eq hr.units) snd_eq (xe_var (pv 5)) xe_str (nomark _)) (xe_op (fun _ => opE (op_bin2 T.sf_Bases T.me_Bases_sub.at_ T.me_Bases_sub.fn (raw0 (ok_Bases_sub T) T.b_Bases_sub) (hr.mono (by decide)) pass0) (op_binX T.sf_Bases T.me_Bases_sub.at_ T.me_Bases_sub.fn T.re_Bases_sub T.io_Bases (raw0 (ok_Bases_sub T) T.b_Bases_sub) (hr.mono (by decide)) pass0)) (snd_opA (E := E0)) (xe_var (pv 3)) (xe_var (pv 4))) (xe_op (fun _ => opE (op_bin2 T.sf_Bases T.me_Bases_xor.at_ T.me_Bases_xor.fn (raw0 (ok_Bases_xor T) T.b_Bases_xor) (hr.mono (by decide)) pass0) (op_binX T.sf_Bases T.me_Bases_xor.at_ T.me_Bases_xor.fn T.re_Bases_xor T.io_Bases (raw0 (ok_Bases_xor T) T.b_Bases_xor) (hr.mono (by decide)) pass0)) (snd_opA (E := E0)) (xe_var (pv 3)) (xe_var (pv 4))))))) (xss_one (xs_ret (xe_callN hG (ok__law_is T) (hr.mono (by decide)) (by rfl) T.g__law_is T.f__law_is.kp T.b__law_is (xa_cons (xe_var (pv 6)) (xa_cons (xe_tup (xa_cons (xe_var (pv 5)) (xa_cons (xe_var (pv 1)) (xa_cons (xe_var (pv 2)) xa_nil)))) xa_nil)))))))))
theorem ok__law_atom (T : Txt K mg F D C) : FnOk P w K mg base CX0 3 (F 27) (D 27) ["_law_deal_here"] (spG0 (tbl K C) wp__law_atom) := by
  unfold wp__law_atom
  exact fnG0 T.f__law_atom sc__law_atom rfl rfl rfl (fun cdv A outer s H E Z M H0 dl hr => (xss_cons (xs_set (i := 1) sc__law_atom.nd rfl (.inr rfl) (xe_callG (pv 0) (okd__law_draw T) (hr.mono (by decide)) (by rfl) T.g__law_draw T.f__law_draw.kp T.b__law_draw (xa_cons xe_int xa_nil))) (xss_cons (xs_if (xt_cmp (fun _ => op_lt) snd_lt (xe_var (pv 1)) xe_int (nomark _)) (xss_one (xs_ret (xe_tup (xa_cons xe_str (xa_cons (xe_callTy hc_tuple snd_tuple (by rfl) T.n_tuple Eb.bb_tuple (xa_cons ((xl_lc (own := [("_law_k", 2)]) rfl sc__law_atom.nd (xi_range1 (by rfl) T.n_range (xa_cons (xe_callG (pv 0) (okd__law_draw T) (hr.mono (by decide)) (by rfl) T.g__law_draw T.f__law_draw.kp T.b__law_draw (xa_cons xe_int xa_nil)) xa_nil)) (blkOk_by (N := ["_law_deal_here", "_law_form", "_law_k"]) (sc := defScope s__law_atom) (by decide +kernel)) (fun _ _ _ _ _ => (xg_name (pg_name (i := 2) sc__law_atom.nd rfl (.inl rfl)))) (fun _ _ _ _ _ => xts_nil) (fun _ _ _ _ _ => (xe_add xe_int (xe_callG (pv 0) (okd__law_draw T) (hr.mono (by decide)) (by rfl) T.g__law_draw T.f__law_draw.kp T.b__law_draw (xa_cons (xe_ix ((xl_lst (xa_cons xe_int (xa_cons xe_int xa_nil)))).xe (xe_var (pv 1))) xa_nil)))))).xe xa_nil)) xa_nil))))) xss_nil) (xss_cons (xs_if (xt_cmp (fun _ => op_lt) snd_lt (xe_var (pv 1)) xe_int (nomark _)) (xss_one (xs_ret (xe_tup (xa_cons xe_str (xa_cons (xe_callG (pv 0) (ok__law_pick T) (hr.mono (by decide)) (by rfl) T.g__law_pick T.f__law_pick.kp T.b__law_pick (xa_cons ((xl_lst (xa_cons xe_int (xa_cons xe_int (xa_cons xe_int (xa_cons xe_int (xa_cons xe_int (xa_cons xe_int (xa_cons xe_int (xa_cons xe_int xa_nil)))))))))).xe xa_nil)) (xa_cons (xe_sub (xe_callG (pv 0) (okd__law_draw T) (hr.mono (by decide)) (by rfl) T.g__law_draw T.f__law_draw.kp T.b__law_draw (xa_cons xe_int xa_nil)) xe_int) xa_nil)))))) xss_nil) (xss_cons (xs_if (xt_cmp (ho_eq hr.units) snd_eq (xe_var (pv 1)) xe_int (nomark _)) (xss_one (xs_ret (xe_tup (xa_cons xe_str (xa_cons (xe_sub (xe_callG (pv 0) (okd__law_draw T) (hr.mono (by decide)) (by rfl) T.g__law_draw T.f__law_draw.kp T.b__law_draw (xa_cons xe_int xa_nil)) xe_int) xa_nil))))) xss_nil) (xss_one (xs_ret (xe_callG (pv 0) (ok__law_pick T) (hr.mono (by decide)) (by rfl) T.g__law_pick T.f__law_pick.kp T.b__law_pick (xa_cons ((xl_lst (xa_cons (xe_tup (xa_cons xe_str xa_nil)) (xa_cons (xe_tup (xa_cons xe_str xa_nil)) xa_nil)))).xe xa_nil)))))))))
theorem ok__law_model (T : Txt K mg F D C) : ∀ n, FnOk P w K mg base CX0 (3 + n) (F 28) (D 28) ["_law_deal_here", "_law_deep"] (spG0 (tbl K C) (wp__law_model n)) := by
  intro n
  induction n with
  | zero =>
    rw [wpz__law_model]
    exact fnG0 (k := 2) T.f__law_model sc__law_model rfl rfl rfl (fun cdv A outer s H E Z M H0 dl hr => xss_never _ (List.cons_ne_nil _ _))
  | succ n ih =>
    rw [wps__law_model]
    exact fnG0 (k := 3 + n) T.f__law_model sc__law_model rfl rfl rfl (fun cdv A outer s H E Z M H0 dl hr => (xss_cons (xs_set (i := 2) sc__law_model.nd rfl (.inl rfl) (xe_callG (pv 0) (okd__law_draw T) (hr.mono (by omega)) (by rfl) T.g__law_draw T.f__law_draw.kp T.b__law_draw (xa_cons xe_int xa_nil))) (xss_cons (xs_if (XW.xt (xw_or (xt_cmp (ho_eq hr.units) snd_eq (xe_var (pv 1)) xe_int (nomark _)) (xw_or1 (xt_cmp (fun _ => op_lt) snd_lt (xe_var (pv 2)) xe_int (nomark _))))) (xss_one (xs_ret (xe_callG (pv 0) (ok__law_atom T) (hr.mono (by omega)) (by rfl) T.g__law_atom T.f__law_atom.kp T.b__law_atom xa_nil))) xss_nil) (xss_cons (xs_set (i := 3) sc__law_model.nd rfl (.inl rfl) (xe_callG (pv 0) ih (hr.mono (by omega)) (by rfl) T.g__law_model T.f__law_model.kp T.b__law_model (xa_cons (xe_sub (xe_var (pv 1)) xe_int) xa_nil))) (xss_cons (xs_if (xt_cmp (ho_eq hr.units) snd_eq (xe_var (pv 2)) xe_int (nomark _)) (xss_one (xs_ret (xe_tup (xa_cons xe_str (xa_cons (xe_var (pv 3)) xa_nil))))) xss_nil) (xss_one (xs_ret (xe_tup (xa_cons (xe_ix xe_str (xe_sub (xe_var (pv 2)) xe_int)) (xa_cons (xe_var (pv 3)) (xa_cons (xe_callG (pv 0) ih (hr.mono (by omega)) (by rfl) T.g__law_model T.f__law_model.kp T.b__law_model (xa_cons (xe_sub (xe_var (pv 1)) xe_int) xa_nil)) xa_nil)))))))))))
theorem ok_Bases_str (T : Txt K mg F D C) : FnOk P w K mg base CX0 1 (F 23) (D 23) ["self"] (spF0 (tbl K C) wp_Bases_str) := by
  unfold wp_Bases_str
  exact fnF0 T.f_Bases_str sc_Bases_str rfl rfl rfl (fun cdv A outer s H E Z M H0 dl hr => (xss_cons (xs_setO (i := 1) sc_Bases_str.nd rfl (.inl rfl) (xl_lst xa_nil)) (xss_cons (xs_if (xt_cmp (fun _ => op_gt) snd_gt (xe_callB hc_len snd_len (by rfl) T.n_len Eb.bb_len (xa_cons (xe_fld (fo_Bases_lone T) (xe_var (pv 0))) xa_nil)) xe_int (nomark _)) (xss_one (xs_app (pv 1) (xe_join xe_str ((xl_lc (own := [("base", 4)]) rfl sc_Bases_str.nd (xi_tup (xe_fld (fo_Bases_lone T) (xe_var (pv 0)))) (blkOk_by (N := ["self", "parts", "told", "rest", "base"]) (sc := defScope s_Bases_str) (by decide +kernel)) (fun _ _ _ _ _ => (xg_name (pg_name (i := 4) sc_Bases_str.nd rfl (.inl rfl)))) (fun _ _ _ _ _ => xts_nil) (fun _ _ _ _ _ => (xe_callTy (fun _ => callE call_str_int SkE.call_str_str) snd_str (by rfl) T.n_str Eb.bb_str (xa_cons (xe_var (pv 4)) xa_nil))))).xe))) xss_nil) (xss_cons (xs_if (xt_cmp (fun _ => op_gt) snd_gt (xe_callB hc_len snd_len (by rfl) T.n_len Eb.bb_len (xa_cons (xe_fld (fo_Bases_rests T) (xe_var (pv 0))) xa_nil)) xe_int (nomark _)) (xss_cons (xs_set (i := 2) sc_Bases_str.nd rfl (.inl rfl) (xe_join xe_str ((xl_lc (own := [("rest", 3)]) rfl sc_Bases_str.nd (xi_tup (xe_fld (fo_Bases_rests T) (xe_var (pv 0)))) (blkOk_by (N := ["self", "parts", "told", "rest", "base"]) (sc := defScope s_Bases_str) (by decide +kernel)) (fun _ _ _ _ _ => (xg_name (pg_name (i := 3) sc_Bases_str.nd rfl (.inl rfl)))) (fun _ _ _ _ _ => xts_nil) (fun _ _ _ _ _ => (xe_callTy (fun _ => callE call_str_int SkE.call_str_str) snd_str (by rfl) T.n_str Eb.bb_str (xa_cons (xe_var (pv 3)) xa_nil))))).xe)) (xss_one (xs_app (pv 1) (xe_joined (.cons xe_str (.cons (xe_fmt (xe_fld (fo_Bases_start T) (xe_var (pv 0)))) (.cons xe_str (.cons (xe_fmt (xe_var (pv 2))) (.cons xe_str (.cons (xe_fmt (xe_fld (fo_Bases_period T) (xe_var (pv 0)))) .nil)))))))))) xss_nil) (xss_cons (xs_if (xt_cmp (ho_eq hr.units) snd_eq (xe_lenO (pv 1) (by rfl) T.n_len) xe_int (nomark _)) (xss_one (xs_ret xe_str)) xss_nil) (xss_one (xs_frz 1 (xs_ret (xe_join xe_str (xe_var (pv 1)))))))))))
theorem ok_law (T : Txt K mg F D C) (hw : w_law) : FnG P w K mg base CX0 12 (F 36) (D 36) ["_law_script"] (sp_law K) := by
  refine fun_g T.f_law sc_law (fun vs H Q E h => ?_) (fun cdv A outer s H vs Q E hG hr h => ?_)
  · obtain ⟨a, ns, rfl, _⟩ := h
    rfl
  · obtain ⟨a, ns, rfl, hs, hn, q⟩ := h
    exact law_body (B := tbl K C) (i := 1) (ps_set (i := 1) sc_law.nd rfl (.inl rfl) (pe_call (ok__law_deal T) (hr.mono (by decide)) (by rfl) T.g__law_deal T.f__law_deal.kp T.b__law_deal .nil pass0 (pa_cons (pv 0) (pa_cons pe_int pa_nil)))) (fun Z M H0 dl => (xss_cons (xs_if (xt_not (xt_truth (xe_callGN hG (pv 1) (ok__law_great_right T) (hr.mono (by decide)) (by rfl) T.g__law_great_right T.f__law_great_right.kp T.b__law_great_right xa_nil) (by intro _; rfl))) (xss_one (xs_ret xe_bl)) xss_nil) (xss_cons (xs_for PassesOwn.never rfl (xi_range1 (by rfl) T.n_range (xa_cons xe_int xa_nil)) (xg_name (pg_name (i := 2) sc_law.nd rfl (.inl rfl))) (xss_cons (xs_par (i := 3) (j := 4) (by rfl) sc_law.nd rfl rfl (by decide) rfl rfl (xa_cons (xe_callG (pv 1) (ok__law_model T 5) (hr.mono (by decide)) (by rfl) T.g__law_model T.f__law_model.kp T.b__law_model (xa_cons xe_int xa_nil)) (xa_cons (xe_callG (pv 1) (ok__law_model T 5) (hr.mono (by decide)) (by rfl) T.g__law_model T.f__law_model.kp T.b__law_model (xa_cons xe_int xa_nil)) xa_nil)) (by rfl)) (xss_cons (xs_par (i := 5) (j := 6) (by rfl) sc_law.nd rfl rfl (by decide) rfl rfl (xa_cons (xe_call (ok__law_set_of T 5) (hr.mono (by decide)) (by rfl) T.g__law_set_of T.f__law_set_of.kp T.b__law_set_of (xa_cons (xe_var (pv 3)) xa_nil)) (xa_cons (xe_call (ok__law_set_of T 5) (hr.mono (by decide)) (by rfl) T.g__law_set_of T.f__law_set_of.kp T.b__law_set_of (xa_cons (xe_var (pv 4)) xa_nil)) xa_nil)) (by rfl)) (xss_cons (xs_if (XW.xt (xw_or (xt_not (xt_truth (xe_callN hG (ok__law_is T) (hr.mono (by decide)) (by rfl) T.g__law_is T.f__law_is.kp T.b__law_is (xa_cons (xe_var (pv 5)) (xa_cons (xe_var (pv 3)) xa_nil))) (by intro _; rfl))) (xw_or (xt_not (xt_truth (xe_callN hG (ok__law_is T) (hr.mono (by decide)) (by rfl) T.g__law_is T.f__law_is.kp T.b__law_is (xa_cons (xe_var (pv 6)) (xa_cons (xe_var (pv 4)) xa_nil))) (by intro _; rfl))) (xw_or1 (xt_not (xt_truth (xe_callN hG (ok__law_is T) (hr.mono (by decide)) (by rfl) T.g__law_is T.f__law_is.kp T.b__law_is (xa_cons (xe_un (fun _ => un_invO T.me_Bases_invert.at_ T.me_Bases_invert.fn (raw0 (ok_Bases_invert T) T.b_Bases_invert) (hr.mono (by decide)) pass0) (snd_un1 (E := E0)) (xe_var (pv 5))) (xa_cons (xe_tup (xa_cons xe_str (xa_cons (xe_var (pv 3)) xa_nil))) xa_nil))) (by intro _; rfl))))))) (xss_one (xs_ret xe_bl)) xss_nil) (xss_cons (xs_asg (xe_tup (xa_cons (xe_var (pv 5)) (xa_cons (xe_var (pv 5)) (xa_cons (xe_var (pv 5)) (xa_cons (xe_var (pv 5)) xa_nil))))) (xg_tup rfl (xgs_cons (pg_name (i := 7) sc_law.nd rfl (.inl rfl)) (xgs_cons (pg_name (i := 8) sc_law.nd rfl (.inl rfl)) (xgs_cons (pg_name (i := 9) sc_law.nd rfl (.inl rfl)) (xgs_cons (pg_name (i := 10) sc_law.nd rfl (.inl rfl)) xgs_nil)))))) (xss_cons (xs_augO (i := 7) (cc := 2) sc_law.nd rfl (.inl rfl) (xe_var (pv 6)) (ip_obj T.sf_Bases T.ni_Bases_or T.me_Bases_or.at_ T.me_Bases_or.fn T.re_Bases_or T.io_Bases (raw0 (ok_Bases_or T) T.b_Bases_or) (hr.mono (by decide)) pass0)) (xss_cons (xs_augO (i := 8) (cc := 2) sc_law.nd rfl (.inl rfl) (xe_var (pv 6)) (ip_obj T.sf_Bases T.ni_Bases_sub T.me_Bases_sub.at_ T.me_Bases_sub.fn T.re_Bases_sub T.io_Bases (raw0 (ok_Bases_sub T) T.b_Bases_sub) (hr.mono (by decide)) pass0)) (xss_cons (xs_augO (i := 9) (cc := 2) sc_law.nd rfl (.inl rfl) (xe_var (pv 6)) (ip_obj T.sf_Bases T.ni_Bases_and T.me_Bases_and.at_ T.me_Bases_and.fn T.re_Bases_and T.io_Bases (raw0 (ok_Bases_and T) T.b_Bases_and) (hr.mono (by decide)) pass0)) (xss_cons (xs_augO (i := 10) (cc := 2) sc_law.nd rfl (.inl rfl) (xe_var (pv 6)) (ip_obj T.sf_Bases T.ni_Bases_xor T.me_Bases_xor.at_ T.me_Bases_xor.fn T.re_Bases_xor T.io_Bases (raw0 (ok_Bases_xor T) T.b_Bases_xor) (hr.mono (by decide)) pass0)) (xss_cons (xs_for PassesOwn.never rfl (xi_tup (xe_tup (xa_cons (xe_tup (xa_cons (xe_var (pv 7)) (xa_cons xe_str xa_nil))) (xa_cons (xe_tup (xa_cons (xe_var (pv 8)) (xa_cons xe_str xa_nil))) (xa_cons (xe_tup (xa_cons (xe_var (pv 9)) (xa_cons xe_str xa_nil))) (xa_cons (xe_tup (xa_cons (xe_var (pv 10)) (xa_cons xe_str xa_nil))) xa_nil)))))) (xg_tup rfl (xgs_cons (pg_name (i := 11) sc_law.nd rfl (.inl rfl)) (xgs_cons (pg_name (i := 12) sc_law.nd rfl (.inl rfl)) xgs_nil))) (xss_one (xs_if (xt_not (xt_truth (xe_callN hG (ok__law_is T) (hr.mono (by decide)) (by rfl) T.g__law_is T.f__law_is.kp T.b__law_is (xa_cons (xe_var (pv 11)) (xa_cons (xe_tup (xa_cons (xe_var (pv 12)) (xa_cons (xe_var (pv 3)) (xa_cons (xe_var (pv 4)) xa_nil)))) xa_nil))) (by intro _; rfl))) (xss_one (xs_ret xe_bl)) xss_nil))) (xss_cons (xs_if (XW.xt (xw_or (xt_not (xt_truth (xe_callN hG (ok__law_is T) (hr.mono (by decide)) (by rfl) T.g__law_is T.f__law_is.kp T.b__law_is (xa_cons (xe_var (pv 5)) (xa_cons (xe_var (pv 3)) xa_nil))) (by intro _; rfl))) (xw_or1 (xt_not (xt_truth (xe_callN hG (ok__law_is T) (hr.mono (by decide)) (by rfl) T.g__law_is T.f__law_is.kp T.b__law_is (xa_cons (xe_var (pv 6)) (xa_cons (xe_var (pv 4)) xa_nil))) (by intro _; rfl)))))) (xss_one (xs_ret xe_bl)) xss_nil) (xss_cons (xs_if (xt_cmp (ho_ne hr.units) snd_ne (xe_cmp (fun _ => op_cmp2 (fun _ _ => rfl) T.me_Bases_eq.at_ T.me_Bases_eq.fn T.nf_Bases (raw0 (ok_Bases_eq T) T.b_Bases_eq) (hr.mono (by decide)) pass0) (snd_op2 (E := E0)) (xe_var (pv 5)) (xe_var (pv 6)) (nomark _)) (xe_cmp (ho_eq hr.units) snd_eq (xe_call (ok__law_told T) (hr.mono (by decide)) (by rfl) T.g__law_told T.f__law_told.kp T.b__law_told (xa_cons (xe_var (pv 3)) xa_nil)) (xe_call (ok__law_told T) (hr.mono (by decide)) (by rfl) T.g__law_told T.f__law_told.kp T.b__law_told (xa_cons (xe_var (pv 4)) xa_nil)) (nomark _)) (nomark _)) (xss_one (xs_ret xe_bl)) xss_nil) (xss_one (xs_if (xt_cmp (ho_inT T.it_Bases T.me_Bases_eq.at_ T.me_Bases_eq.fn (raw0 (ok_Bases_eq T) T.b_Bases_eq) (hr.mono (by decide)) pass0) (snd_inT (E := E0)) (xe_var (pv 5)) (xe_tup (xa_cons xe_non (xa_cons (xe_fld (fo_Bases_lone T) (xe_var (pv 5))) (xa_cons (xe_callTy (fun _ => call_strOwn T.me_Bases_str.at_ T.me_Bases_str.fn (raw0 (ok_Bases_str T) T.b_Bases_str) (hr.mono (by decide)) hr.units (E := E0) pass0) snd_strO (by rfl) T.n_str Eb.bb_str (xa_cons (xe_var (pv 5)) xa_nil)) (xa_cons (xe_call (ok__law_told T) (hr.mono (by decide)) (by rfl) T.g__law_told T.f__law_told.kp T.b__law_told (xa_cons (xe_var (pv 3)) xa_nil)) xa_nil))))) (by rfl)) (xss_one (xs_ret xe_bl)) xss_nil)))))))))))))) (xss_one (xs_ret xe_bl))))) rfl hs hn (by decide) (by decide) rfl (by decide) hw q

end
end K31

namespace K31
open PySem PySem.Spec PyProof.Rows L2 Eb
theorem all_mk {w : World} {K : PySem.W.Frag} {h : Heap} {mg : Str → Option Value} {fa : Addr} (X : K.In h) (G : h.Ns mainGlobals mg) (hfa : mg "law" = some (.ref fa)) (c : HK.Says chk dqs tabs w K) :
    ∃ fd : FuncData, (∀ (s : Shared) (v : Value), BindsTo s fd ⟨[v], []⟩ [("_law_script", v)]) ∧ ∀ base : Heap, K.In base → base.Ns mainGlobals mg → Eb.FnG (PySem.Challenge.rw_everybase_k31_sets_of_bases_mixed).prog w K mg base CX0 12 fa fd ["_law_script"] (Eb.sp_law K) := by
  have c0 := c.chk_
  unfold chk at c0
  obtain ⟨g0, c0⟩ := HK.ba c0
  obtain ⟨g1, c0⟩ := HK.ba c0
  have g2 := c0
  obtain rfl : 382 = fa := by
    have e := hfa.symm.trans (HK.glo_ok X G (HK.look g2 36))
    cases e
    rfl
  obtain ⟨fd1, F1⟩ := HK.fn_fun (c.fn_ 0) (HK.look g0 0)
  obtain ⟨fd2, F2⟩ := HK.fn_fun (c.fn_ 1) (HK.look g0 2)
  obtain ⟨fd3, F3⟩ := HK.fn_fun (c.fn_ 2) (HK.look g0 4)
  obtain ⟨fd4, F4⟩ := HK.fn_fun (c.fn_ 3) (HK.look g0 6)
  obtain ⟨fd5, F5⟩ := HK.fn_fun (c.fn_ 4) (HK.look g0 8)
  obtain ⟨fd6, F6⟩ := HK.fn_fun (c.fn_ 5) (HK.look g0 10)
  obtain ⟨fd7, F7⟩ := HK.fn_fun (c.fn_ 6) (HK.look g0 12)
  obtain ⟨fd8, F8⟩ := HK.fn_fun (c.fn_ 7) (HK.look g0 14)
  obtain ⟨fd9, F9⟩ := HK.fn_fun (c.fn_ 8) (HK.look g0 16)
  obtain ⟨fd11, F11⟩ := HK.fn_fun (c.fn_ 9) (HK.look g0 18)
  obtain ⟨fd12, F12⟩ := HK.fn_fun (c.fn_ 10) (HK.look g0 19)
  obtain ⟨fd13, F13⟩ := HK.fn_fun (c.fn_ 11) (HK.look g0 20)
  obtain ⟨fd14, F14⟩ := HK.fn_fun (c.fn_ 12) (HK.look g0 21)
  obtain ⟨fd15, F15⟩ := HK.fn_fun (c.fn_ 13) (HK.look g0 22)
  obtain ⟨fd16, F16⟩ := HK.fn_fun (c.fn_ 14) (HK.look g0 23)
  obtain ⟨fd17, F17⟩ := HK.fn_fun (c.fn_ 15) (HK.look g0 24)
  obtain ⟨fd18, F18⟩ := HK.fn_fun (c.fn_ 16) (HK.look g0 25)
  obtain ⟨fd19, F19⟩ := HK.fn_fun (c.fn_ 17) (HK.look g0 26)
  obtain ⟨fd20, F20⟩ := HK.fn_fun (c.fn_ 18) (HK.look g0 27)
  obtain ⟨fd21, F21⟩ := HK.fn_fun (c.fn_ 19) (HK.look g0 28)
  obtain ⟨fd22, F22⟩ := HK.fn_fun (c.fn_ 20) (HK.look g0 29)
  obtain ⟨fd23, F23⟩ := HK.fn_fun (c.fn_ 21) (HK.look g0 30)
  obtain ⟨fd24, F24⟩ := HK.fn_fun (c.fn_ 22) (HK.look g0 31)
  obtain ⟨fd25, F25⟩ := HK.fn_fun (c.fn_ 23) (HK.look g0 33)
  obtain ⟨fd26, F26⟩ := HK.fn_fun (c.fn_ 24) (HK.look g0 35)
  obtain ⟨fd27, F27⟩ := HK.fn_fun (c.fn_ 25) (HK.look g0 37)
  obtain ⟨fd28, F28⟩ := HK.fn_fun (c.fn_ 26) (HK.look g0 39)
  obtain ⟨fd29, F29⟩ := HK.fn_fun (c.fn_ 27) (HK.look g1 1)
  obtain ⟨fd30, F30⟩ := HK.fn_fun (c.fn_ 28) (HK.look g1 3)
  obtain ⟨fd31, F31⟩ := HK.fn_fun (c.fn_ 29) (HK.look g1 5)
  obtain ⟨fd32, F32⟩ := HK.fn_fun (c.fn_ 30) (HK.look g1 7)
  obtain ⟨fd33, F33⟩ := HK.fn_fun (c.fn_ 31) (HK.look g1 9)
  obtain ⟨fd34, F34⟩ := HK.fn_fun (c.fn_ 32) (HK.look g1 11)
  obtain ⟨fd35, F35⟩ := HK.fn_fun (c.fn_ 33) (HK.look g1 13)
  obtain ⟨fd36, F36⟩ := HK.fn_fun (c.fn_ 34) (HK.look g1 15)
  have T : Txt K mg (fun i => match i with | 0 => 21 | 1 => 53 | 2 => 60 | 3 => 67 | 4 => 72 | 5 => 79 | 6 => 84 | 7 => 91 | 8 => 96 | 9 => 103 | 10 => 110 | 11 => 124 | 12 => 131 | 13 => 141 | 14 => 149 | 15 => 157 | 16 => 167 | 17 => 184 | 18 => 191 | 19 => 198 | 20 => 205 | 21 => 212 | 22 => 226 | 23 => 292 | 24 => 304 | 25 => 311 | 26 => 318 | 27 => 323 | 28 => 330 | 29 => 337 | 30 => 344 | 31 => 349 | 32 => 356 | 33 => 363 | 34 => 368 | 35 => 375 | 36 => 382 | _ => 0) (fun i => match i with | 1 => fd1 | 2 => fd2 | 3 => fd3 | 4 => fd4 | 5 => fd5 | 6 => fd6 | 7 => fd7 | 8 => fd8 | 9 => fd9 | 11 => fd11 | 12 => fd12 | 13 => fd13 | 14 => fd14 | 15 => fd15 | 16 => fd16 | 17 => fd17 | 18 => fd18 | 19 => fd19 | 20 => fd20 | 21 => fd21 | 22 => fd22 | 23 => fd23 | 24 => fd24 | 25 => fd25 | 26 => fd26 | 27 => fd27 | 28 => fd28 | 29 => fd29 | 30 => fd30 | 31 => fd31 | 32 => fd32 | 33 => fd33 | 34 => fd34 | 35 => fd35 | 36 => fd36 | _ => fd36) (fun i => match i with | 0 => 31 | 1 => 44 | 2 => 295 | _ => 0) := ⟨F1,
    (F1.binds (ps := ["value"]) fun _ _ _ _ _ _ us hl => match us, hl with | [_], _ => rfl),
    (HK.glo_ok X G (HK.look g0 1)),
    F2,
    (F2.binds (ps := ["value"]) fun _ _ _ _ _ _ us hl => match us, hl with | [_], _ => rfl),
    (HK.glo_ok X G (HK.look g0 3)),
    F3,
    (F3.binds (ps := ["one", "other"]) fun _ _ _ _ _ _ us hl => match us, hl with | [_, _], _ => rfl),
    (HK.glo_ok X G (HK.look g0 5)),
    F4,
    (F4.binds (ps := ["number"]) fun _ _ _ _ _ _ us hl => match us, hl with | [_], _ => rfl),
    (HK.glo_ok X G (HK.look g0 7)),
    F5,
    (F5.binds (ps := ["marks"]) fun _ _ _ _ _ _ us hl => match us, hl with | [_], _ => rfl),
    (HK.glo_ok X G (HK.look g0 9)),
    F6,
    (F6.binds (ps := ["lone", "marks"]) fun _ _ _ _ _ _ us hl => match us, hl with | [_, _], _ => rfl),
    (HK.glo_ok X G (HK.look g0 11)),
    F7,
    (F7.binds (ps := ["sign", "here", "there"]) fun _ _ _ _ _ _ us hl => match us, hl with | [_, _, _], _ => rfl),
    (HK.glo_ok X G (HK.look g0 13)),
    F8,
    (F8.binds (ps := ["sign", "one", "other"]) fun _ _ _ _ _ _ us hl => match us, hl with | [_, _, _], _ => rfl),
    (HK.glo_ok X G (HK.look g0 15)),
    F9,
    (F9.binds (ps := ["bases", "base"]) fun _ _ _ _ _ _ us hl => match us, hl with | [_, _], _ => rfl),
    (HK.glo_ok X G (HK.look g0 17)),
    F11,
    (F11.binds (ps := ["self", "start", "period", "rests", "lone"]) fun _ _ _ _ _ _ us hl => match us, hl with | [_, _, _, _, _], _ => rfl),
    F12,
    (F12.binds (ps := ["cls"]) fun _ _ _ _ _ _ us hl => match us, hl with | [_], _ => rfl),
    F13,
    (F13.binds (ps := ["cls"]) fun _ _ _ _ _ _ us hl => match us, hl with | [_], _ => rfl),
    F14,
    (F14.binds (ps := ["cls", "bases"]) fun _ _ _ _ _ _ us hl => match us, hl with | [_, _], _ => rfl),
    F15,
    (F15.binds (ps := ["cls", "period", "rest"]) fun _ _ _ _ _ _ us hl => match us, hl with | [_, _, _], _ => rfl),
    F16,
    (F16.binds (ps := ["cls", "first"]) fun _ _ _ _ _ _ us hl => match us, hl with | [_, _], _ => rfl),
    F17,
    (F17.binds (ps := ["self", "other"]) fun _ _ _ _ _ _ us hl => match us, hl with | [_, _], _ => rfl),
    F18,
    (F18.binds (ps := ["self", "other"]) fun _ _ _ _ _ _ us hl => match us, hl with | [_, _], _ => rfl),
    F19,
    (F19.binds (ps := ["self", "other"]) fun _ _ _ _ _ _ us hl => match us, hl with | [_, _], _ => rfl),
    F20,
    (F20.binds (ps := ["self", "other"]) fun _ _ _ _ _ _ us hl => match us, hl with | [_, _], _ => rfl),
    F21,
    (F21.binds (ps := ["self"]) fun _ _ _ _ _ _ us hl => match us, hl with | [_], _ => rfl),
    F22,
    (F22.binds (ps := ["self", "other"]) fun _ _ _ _ _ _ us hl => match us, hl with | [_, _], _ => rfl),
    F23,
    (F23.binds (ps := ["self"]) fun _ _ _ _ _ _ us hl => match us, hl with | [_], _ => rfl),
    F24,
    (F24.binds (ps := ["_law_script", "_law_base"]) fun _ _ _ _ _ _ us hl => match us, hl with | [_, _], _ => rfl),
    (HK.glo_ok X G (HK.look g0 32)),
    F25,
    (F25.binds (ps := ["_law_deal_here", "_law_span_here"]) fun _ _ _ _ _ _ us hl => match us, hl with | [_, _], _ => rfl),
    (HK.glo_ok X G (HK.look g0 34)),
    F26,
    (F26.binds (ps := ["_law_deal_here", "_law_some"]) fun _ _ _ _ _ _ us hl => match us, hl with | [_, _], _ => rfl),
    (HK.glo_ok X G (HK.look g0 36)),
    F27,
    (F27.binds (ps := ["_law_deal_here"]) fun _ _ _ _ _ _ us hl => match us, hl with | [_], _ => rfl),
    (HK.glo_ok X G (HK.look g0 38)),
    F28,
    (F28.binds (ps := ["_law_deal_here", "_law_deep"]) fun _ _ _ _ _ _ us hl => match us, hl with | [_, _], _ => rfl),
    (HK.glo_ok X G (HK.look g1 0)),
    F29,
    (F29.binds (ps := ["_law_model_here", "_law_base"]) fun _ _ _ _ _ _ us hl => match us, hl with | [_, _], _ => rfl),
    (HK.glo_ok X G (HK.look g1 2)),
    F30,
    (F30.binds (ps := ["_law_model_here"]) fun _ _ _ _ _ _ us hl => match us, hl with | [_], _ => rfl),
    (HK.glo_ok X G (HK.look g1 4)),
    F31,
    (F31.binds (ps := ["_law_model_here"]) fun _ _ _ _ _ _ us hl => match us, hl with | [_], _ => rfl),
    (HK.glo_ok X G (HK.look g1 6)),
    F32,
    (F32.binds (ps := ["_law_model_here"]) fun _ _ _ _ _ _ us hl => match us, hl with | [_], _ => rfl),
    (HK.glo_ok X G (HK.look g1 8)),
    F33,
    (F33.binds (ps := ["_law_bases", "_law_model_here"]) fun _ _ _ _ _ _ us hl => match us, hl with | [_, _], _ => rfl),
    (HK.glo_ok X G (HK.look g1 10)),
    F34,
    (F34.binds (ps := ["_law_deal_here"]) fun _ _ _ _ _ _ us hl => match us, hl with | [_], _ => rfl),
    (HK.glo_ok X G (HK.look g1 12)),
    F35,
    (F35.binds (ps := ["_law_deal_here"]) fun _ _ _ _ _ _ us hl => match us, hl with | [_], _ => rfl),
    (HK.glo_ok X G (HK.look g1 14)),
    F36,
    (HK.free_ok X G (HK.look g1 16)),
    (HK.free_ok X G (HK.look g1 17)),
    (HK.free_ok X G (HK.look g1 18)),
    (HK.free_ok X G (HK.look g1 19)),
    (HK.free_ok X G (HK.look g1 20)),
    (HK.free_ok X G (HK.look g1 21)),
    (HK.free_ok X G (HK.look g1 22)),
    (HK.free_ok X G (HK.look g1 23)),
    (HK.free_ok X G (HK.look g1 24)),
    (HK.free_ok X G (HK.look g1 25)),
    (HK.free_ok X G (HK.look g1 26)),
    (HK.free_ok X G (HK.look g1 27)),
    (HK.free_ok X G (HK.look g1 28)),
    (HK.con_ok X G (HK.look g1 29)),
    (HK.glo_ok X G (HK.look g1 30)),
    (HK.cls_ok (HK.look g1 31)),
    (HK.mk_ok (HK.look g1 32)),
    (HK.look g1 33),
    (HK.look g1 34),
    (of_decide_eq_true (HK.look g1 35)),
    (HK.eqO_ok (HK.look g1 36)),
    (HK.eqO_ok (HK.look g1 37)),
    (of_decide_eq_true (HK.look g1 38)),
    (of_decide_eq_true (HK.look g1 39)),
    (HK.kit_ok (HK.look g2 0)),
    (HK.kit_ok (HK.look g2 1)),
    (HK.kit_ok (HK.look g2 2)),
    (HK.kit_ok (HK.look g2 3)),
    (HK.kit_ok (HK.look g2 4)),
    (HK.kit_ok (HK.look g2 5)),
    (HK.kit_ok (HK.look g2 6)),
    (HK.kit_ok (HK.look g2 7)),
    (HK.kit_ok (HK.look g2 8)),
    (HK.noa_ok (HK.look g2 9)),
    (HK.noa_ok (HK.look g2 10)),
    (HK.noa_ok (HK.look g2 11)),
    (HK.noa_ok (HK.look g2 12)),
    (HK.met_ok (HK.look g2 13)),
    (HK.ref_ok (HK.look g2 14)),
    (HK.met_ok (HK.look g2 15)),
    (HK.ref_ok (HK.look g2 16)),
    (HK.met_ok (HK.look g2 17)),
    (HK.ref_ok (HK.look g2 18)),
    (HK.met_ok (HK.look g2 19)),
    (HK.ref_ok (HK.look g2 20)),
    (HK.met_ok (HK.look g2 21)),
    (HK.met_ok (HK.look g2 22)),
    (HK.met_ok (HK.look g2 23)),
    ⟨of_decide_eq_true (HK.look g2 24), of_decide_eq_true (HK.look g2 25), of_decide_eq_true (HK.look g2 26)⟩,
    (HK.noi_ok (HK.look g2 27)),
    (HK.noi_ok (HK.look g2 28)),
    (HK.noi_ok (HK.look g2 29)),
    (HK.noi_ok (HK.look g2 30)),
    (HK.cm_ok (HK.look g2 31)),
    (HK.cm_ok (HK.look g2 32)),
    (HK.cm_ok (HK.look g2 33)),
    (HK.cm_ok (HK.look g2 34)),
    (HK.cm_ok (HK.look g2 35))⟩
  exact ⟨fd36, HK.bind1 F36 fun _ _ _ _ _ _ _ => rfl, fun base _ _ => ok_law T law_holds⟩
end K31
open PySem PySem.W PySem.Calls PyProof.Rows
set_option maxRecDepth 100000 in
set_option maxHeartbeats 0 in
theorem PySem.Challenge.cw_everybase_k31_sets_of_bases_mixed_holds : PySem.Challenge.rw_everybase_k31_sets_of_bases_mixed.Holds := by
  w_on; o_law
  refine HandSHeadRun.head_any (r := OpenLaw.row PySem.Challenge.rw_everybase_k31_sets_of_bases_mixed) (q := view (OpenLaw.row PySem.Challenge.rw_everybase_k31_sets_of_bases_mixed).prog [31]) (H := Eb.HK.hook K31.ads K31.chk K31.dqs K31.tabs) (ob := Eb.HK.ob K31.ads K31.chk K31.dqs K31.tabs) (M := 3369) (loose := K31.loose) (d := HandSHeadRun.topDef (OpenLaw.row PySem.Challenge.rw_everybase_k31_sets_of_bases_mixed).prog 31) (kwd := []) (Eb.HK.ob_eq _ _ _ _)
    (by kernel_rfl) (fun s => by kernel_rfl) K31.run (by kernel_rfl) (by kernel_rfl) (by kernel_rfl) (by rfl) (by first | assumption | decide +kernel) (by decide +kernel) ⟨rfl, rfl, rfl, rfl, rfl, by decide +kernel⟩ ?hw ?hc
  case hw => w_witness2
  case hc =>
    refine Eb.walk_gE (l := PySem.Challenge.rw_everybase_k31_sets_of_bases_mixed) (n := 63) (k := 12) (x := "_law_script") rfl (by decide) (by kernel_rfl) ⟨rfl, by decide, by decide⟩ ?F
    intro w mg fa h Y G hmg0
    obtain ⟨K, KX, c⟩ := Y
    have hmg : mg ("law" : PySem.Str) = some (.ref fa) := by
      have e : (HandSHeadRun.topDef (OpenLaw.row PySem.Challenge.rw_everybase_k31_sets_of_bases_mixed).prog 31).name = ("law" : PySem.Str) := by kernel_rfl
      rw [← e]
      exact hmg0
    obtain ⟨fd, hb, hF⟩ := K31.all_mk (w := w) KX G hmg c
    exact ⟨K, fd, Eb.sp_law K, KX, hb, fun H a ns hl hS => ⟨a, ns, rfl, hS, hl, fun _ => rfl⟩, hF⟩

