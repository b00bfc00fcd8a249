import PyProof.Rows.All
import Wide.All
import OpenK.AllK
import Wide.FinOn
import KE.KStateDown
import HandS.Head0
import HandS.Head1
import HandS.Head2
import HandS.ForMost
import HandS.ForExc
import HandS.HeadHook1
import HandS.HeadEnd
import HandS.IsInst
import HandS.TryMany
import HandS.ExcIs
import HandS.Style
import HandS.Wide
import HandS.WideMore
import HandS.Text
import HandS.WordsExc
import HandS.MakeKwOnly
import HandS.Star
import HandS.CallRecv
import HandS.ExcOwn
import HandS.ReplaceLit
import HandS.More
import PyProof.ToksMono
import PyProof.ReprRoads
import HandS.TryOnly
import HandS.EndBits
import HandS.Replace
import PyProof.StrLawsRepr
import PyProof.ReprLen
import PyProof.StrLawsReplace
import PySem.Challenge.RW_rulewardens_k72_words_of_commands
section
set_option Elab.async false
set_option linter.all false
set_option maxRecDepth 100000
set_option maxHeartbeats 4000000
/-! The head in segments: a group of the top's statements is run over the heap as a tree, from a written state to a written state. -/
namespace KHead
open PySem PySem.W PySem.Calls PyProof.Rows HandSHeadRun
section
variable (st : SharedT → Thread → Option (SharedT × Thread)) (n0 : Nat) (ann : Option Value)
/-- a segment, to where its statements end -/
def segF (b : Nat) : Nat → SharedT → Thread → Option (Flow × SharedT × Code × Pos)
  | 0, _, _ => none
  | n + 1, s, t => match endAt b t with
    | some f => some (f, s, t.code, t.pos)
    | none => match stepOk n0 ann t with
      | false => none
      | true => match st s t with
        | none => none
        | some (s2, t2) => frS s2 fun s2 => segF b n s2 t2
/-- just so many steps of the top -/
def topF : Nat → SharedT → Thread → Option (SharedT × Thread)
  | 0, s, t => some (s, t)
  | n + 1, s, t => match through t with
    | true => none
    | false => match stepOk n0 ann t with
      | false => none
      | true => match st s t with
        | none => none
        | some (s2, t2) => frS s2 fun s2 => topF n s2 t2
end
section
variable {tb : String → Option Builtin} {p : Program} {w : World} {n0 : Nat} {ann : Option Value} {b : Nat}
theorem segF_ok : ∀ {n : Nat} {s s' : SharedT} {t : Thread} {f : Flow} {c : Code} {q : Pos}, segF (stepT (denote tb) p w) n0 ann b n s t = some (f, s', c, q) → segRun tb p w n0 ann b n s.abs t = some (f, s'.abs, c, q) := by
  intro n
  induction n with
  | zero => intro s s' t f c q h; cases h
  | succ n ih =>
    intro s s' t f c q h
    unfold segF at h
    unfold segRun
    cases e1 : endAt b t with
    | some x =>
      rw [e1] at h
      obtain ⟨rfl, rfl, rfl, rfl⟩ : x = f ∧ s = s' ∧ t.code = c ∧ t.pos = q := by simpa using h
      rfl
    | none =>
      rw [e1] at h
      cases e2 : stepOk n0 ann t with
      | false => rw [e2] at h; cases h
      | true =>
        rw [e2] at h
        cases e3 : stepT (denote tb) p w s t with
        | none => rw [e3] at h; cases h
        | some r =>
          obtain ⟨s2, t2⟩ := r
          rw [e3] at h
          dsimp only at h ⊢
          rw [frS_eq] at h
          rw [stepT_spec e3]
          exact ih h
theorem topF_ok : ∀ {n : Nat} {s s' : SharedT} {t t' : Thread}, topF (stepT (denote tb) p w) n0 ann n s t = some (s', t') → topGo tb p w n0 ann n s.abs t = some (s'.abs, t') := by
  intro n
  induction n with
  | zero =>
    intro s s' t t' h
    obtain ⟨rfl, rfl⟩ : s = s' ∧ t = t' := by simpa [topF] using h
    rfl
  | succ n ih =>
    intro s s' t t' h
    unfold topF at h
    unfold topGo
    cases e1 : through t with
    | true => rw [e1] at h; cases h
    | false =>
      rw [e1] at h
      cases e2 : stepOk n0 ann t with
      | false => rw [e2] at h; cases h
      | true =>
        rw [e2] at h
        cases e3 : stepT (denote tb) p w s t with
        | none => rw [e3] at h; cases h
        | some r =>
          obtain ⟨s2, t2⟩ := r
          rw [e3] at h
          dsimp only at h ⊢
          rw [frS_eq] at h
          rw [stepT_spec e3]
          exact ih h
end
/-! by the library's twins -/
def SegEq (p : Program) (env : Env) (cd : Code) (q0 : Pos) (n0 : Nat) (ann : Option Value) (n : Nat) (l : List Stmt) (S S' : World → OsState → SharedT) (ps ps' : Pos) (w : World) : Prop :=
  ∀ os : OsState, segF (stepQ (denQ tabQ) p w) n0 ann 1 n (S w os) (piecesOf l env cd ps [topFrame q0]) = some (.next, S' w os, cd, ps')
theorem SegEq.run {p : Program} {env : Env} {cd : Code} {q0 : Pos} {n0 : Nat} {ann : Option Value} {n : Nat} {l : List Stmt} {S S' : World → OsState → SharedT} {ps ps' : Pos} {w : World}
    (h : SegEq p env cd q0 n0 ann n l S S' ps ps' w) (os : OsState) : segRun treeTable p w n0 ann 1 n (S w os).abs (piecesOf l env cd ps [topFrame q0]) = some (.next, (S' w os).abs, cd, ps') := by
  have e := h os
  rw [← stepQ_eq, ← denQ_eq, ← tabQ_eq] at e
  exact segF_ok e
/-- what of the top's statements is left from a place on -/
def RunsFrom (p : Program) (env : Env) (cd : Code) (q0 : Pos) (n0 : Nat) (ann : Option Value) (rest : List Stmt) (S E : World → OsState → SharedT) (ps : Pos) (N : Nat) : Prop :=
  ∀ (w : World) (os : OsState), topRun treeTable p w n0 ann N (S w os).abs (restOf rest env cd ps [topFrame q0]) = some (E w os).abs
theorem RunsFrom.seg {p : Program} {env : Env} {cd : Code} {q0 : Pos} {n0 : Nat} {ann : Option Value} {n N : Nat} {l rest : List Stmt} {S S' E : World → OsState → SharedT} {ps ps' : Pos}
    (h : ∀ w, SegEq p env cd q0 n0 ann n l S S' ps ps' w) (k : RunsFrom p env cd q0 n0 ann rest S' E ps' N) : RunsFrom p env cd q0 n0 ann (l ++ rest) S E ps (n + N) :=
  fun w os => piece_app ((h w).run os) (k w os)
theorem RunsFrom.done {p : Program} {env : Env} {cd : Code} {q0 : Pos} {n0 : Nat} {ann : Option Value} {n : Nat} {S E : World → OsState → SharedT} {ps : Pos}
    (h : ∀ (w : World) (os : OsState), goF (stepQ (denQ tabQ) p w) n0 ann n (S w os) ⟨doneF .next, cd, ps, [topFrame q0]⟩ = some (E w os)) : RunsFrom p env cd q0 n0 ann [] S E ps n := fun w os => by
  have e := h w os
  rw [← stepQ_eq, ← denQ_eq, ← tabQ_eq] at e
  exact piece_nil (goF_ok e)
/-- all of it, from the boot -/
theorem top_run {p : Program} {env : Env} {q0 pa pb : Pos} {n0 : Nat} {ann : Option Value} {na nb N : Nat} {b : List Stmt} {Sa Sb E : World → OsState → SharedT} (hn : ∀ w : World, (boot_heap w.params).objs.size = n0) (ha : ∀ w : World, bootAnn w = ann)
    (pre : ∀ (w : World) (os : OsState), (match putAll (boot_heap w.params).objs.toList .nil 0 with
      | some (t, n) => frNat n fun n => topF (stepQ (denQ tabQ) p w) n0 ann na (bootT w os (t, n)) (topStub p)
      | none => none) = some (Sa w os, ⟨denQ tabQ (.body b env), .body b env, pa, [topFrame q0]⟩))
    (blk : ∀ (w : World) (os : OsState), segF (stepQ (denQ tabQ) p w) n0 ann 1 nb (Sa w os) (blockOf b env (.body b env) pa [topFrame q0]) = some (.next, Sb w os, .body b env, pb))
    (k : RunsFrom p env (.body b env) q0 n0 ann b Sb E pb N) (w : World) (os : OsState) :
    topRun treeTable p w (boot_heap w.params).objs.size (bootAnn w) (na + (nb + N)) ⟨boot_heap w.params, #[], boot_drawn, boot_toks, os⟩ (topStub p) = some (E w os).abs := by
  rw [hn, ha]
  have e := pre w os
  cases z : putAll (boot_heap w.params).objs.toList .nil 0 with
  | none => rw [z] at e; cases e
  | some r =>
    obtain ⟨t, n⟩ := r
    rw [z] at e
    dsimp only at e
    rw [frNat_eq] at e
    rw [← stepQ_eq, ← denQ_eq, ← tabQ_eq] at e
    have e1 := topF_ok e
    have eb : (bootT w os (t, n)).abs = ⟨boot_heap w.params, #[], boot_drawn, boot_toks, os⟩ := by
      have eh := putAll_heap z
      show (⟨absHeap t n (boot_heap w.params).life, #[], boot_drawn, boot_toks, os⟩ : Shared) = _
      rw [eh]
    rw [eb] at e1
    refine go_top e1 ?_
    have e2 := blk w os
    rw [← stepQ_eq, ← denQ_eq, ← tabQ_eq] at e2
    exact piece_block (segF_ok e2) (k w os)
/-- LeftO of a written end -/
theorem left_of {p q : Program} {loose : List PySem.Str} {Xt : Shared → Bool} {α : Type} {Yf : Shared → α} {Ya : World → α} {N M : Nat} {E : World → OsState → SharedT}
    (e : opening p = plainProg p.main.scope.names) (hN : Nat.ble 600 N = true) (f : ∀ s, fenceModules? p s = some s) (le : Nat.ble M N = true)
    (run : ∀ (w : World) (os : OsState), topRun treeTable p w (boot_heap w.params).objs.size (bootAnn w) M ⟨boot_heap w.params, #[], boot_drawn, boot_toks, os⟩ (topStub p) = some (E w os).abs)
    (l1 : ∀ (w : World) (os : OsState), looksF p (boot_heap w.params) (E w os).abs = true)
    (l2 : ∀ (w : World) (os : OsState), openSeen q loose (importedModules p.main.body) Xt true (E w os).abs = openGood q loose)
    (l3 : ∀ (w : World) (os : OsState), Yf (E w os).abs = Ya w) : LeftO p q loose Xt Yf Ya N true := fun w => by
  obtain ⟨⟨h, gs, d, k, os⟩, a, a'⟩ := Option.map_eq_some_iff.mp (boot_open e hN f w)
  obtain ⟨rfl, rfl, rfl, rfl⟩ : h = boot_heap w.params ∧ gs = Array.mk [] ∧ d = boot_drawn ∧ k = boot_toks := by simpa using a'
  have r := topRun_mono (N - M) _ _ _ _ (run w os)
  rw [show M + (N - M) = N by have := Nat.le_of_ble_eq_true le; omega] at r
  have g1 : (staticsOk (importedModules p.main.body) (boot_heap w.params) (E w os).abs.heap && namesBound p (E w os).abs.heap && gensDone (E w os).abs && laidKept (boot_heap w.params) (E w os).abs.heap) = true := l1 w os
  have t : topFrom treeTable p w N ⟨boot_heap w.params, Array.mk [], boot_drawn, boot_toks, os⟩ = some (E w os).abs := by
    unfold topFrom
    dsimp only
    rw [boot_ns]
    show Option.bind (topRun treeTable p w (boot_heap w.params).objs.size (bootAnn w) N ⟨boot_heap w.params, #[], boot_drawn, boot_toks, os⟩ (topStub p)) _ = some _
    rw [r]
    show (match staticsOk (importedModules p.main.body) (boot_heap w.params) (E w os).abs.heap && namesBound p (E w os).abs.heap && gensDone (E w os).abs && laidKept (boot_heap w.params) (E w os).abs.heap with
      | true => some (E w os).abs
      | false => none) = some (E w os).abs
    rw [g1]
  unfold openEnds
  rw [a]
  show Option.map _ (topFrom treeTable p w N _) = some _
  rw [t]
  exact congrArg some (Prod.ext (l2 w os) (l3 w os))
/-- the head of a law by a written end -/
theorem head_by {r : OpenRow} {q : Program} {H : Hook} {M : Nat} {loose : List PySem.Str} {d : DefRec} {kwd : List (PySem.Str × PySem.Expr)} {E : World → OsState → SharedT}
    (e : opening r.prog = plainProg r.prog.main.scope.names) (f : ∀ s, fenceModules? r.prog s = some s)
    (run : ∀ (w : World) (os : OsState), topRun treeTable r.prog w (boot_heap w.params).objs.size (bootAnn w) M ⟨boot_heap w.params, #[], boot_drawn, boot_toks, os⟩ (topStub r.prog) = some (E w os).abs)
    (l1 : ∀ (w : World) (os : OsState), looksF r.prog (boot_heap w.params) (E w os).abs = true)
    (l2 : ∀ (w : World) (os : OsState), openSeen q loose (importedModules r.prog.main.body) (fun s => xlAt q [] s && recOk r.toRowW.records s) true (E w os).abs = openGood q loose)
    (l3 : ∀ (w : World) (os : OsState), H.obs (E w os).abs = H.val w)
    (hdef : defOf q r.name = some (d, kwd)) (hp : r.prog.theDef r.name = some (d.params, d.body, d.scope)) (hk : kwWritten? d.params.kwonlyargs d.params.kw_defaults = some kwd)
    (hwr : (!r.writes || r.records.isEmpty) = true) (k1 : r.wellSaid = true) (ok : (chainsOk q && opensWell r.prog && (frees r.toRowW && r.within.isEmpty)) = true) (hb : r.prog.bare) (hw : r.toRowW.promised)
    (call : WalkO q loose (XL q []) H.says r.toRowW d kwd fun f vs => PySem.call f vs) : r.Holds := by
  have left : LeftO r.prog q loose (fun s => xlAt q [] s && recOk r.toRowW.records s) H.obs H.val (M + 600) true :=
    left_of (M := M) e (Nat.ble_eq_true_of_le (by omega)) f (Nat.ble_eq_true_of_le (by omega)) run l1 l2 l3
  exact holds_open (r := r) (q := q) (loose := loose) (XP := XL q []) (YP := H.says) (d := d) (kwd := kwd) left H.of H.keeps (fun s z => xl_of s (Bool.and_eq_true_iff.mp z).1) XL.keeps hdef hp hk
    (fun s z => recFacts_of (Bool.and_eq_true_iff.mp z).2) hwr k1 ok hb hw call
end KHead
end

section
set_option Elab.async false
set_option linter.all false
set_option maxRecDepth 100000
set_option maxHeartbeats 0
noncomputable section
namespace K72
open PySem PySem.W PySem.Calls PyProof.Rows HandSHeadRun KHead
abbrev prog : Program := PySem.Challenge.pw_rulewardens_k72_words_of_commands
def top (i : Nat) : Stmt := prog.main.body.getD i (.Pass ⟨0, 0, 0, 0⟩)
def inC (s : Stmt) (j : Nat) : Stmt := match s with
  | .ClassDef _ _ _ b _ _ _ _ _ _ _ => b.getD j (.Pass ⟨0, 0, 0, 0⟩)
  | _ => .Pass ⟨0, 0, 0, 0⟩
def dArgs (s : Stmt) : Arguments := match s with
  | .FunctionDef _ a _ _ _ _ _ _ _ _ => a
  | _ => ⟨[], [], none, [], [], none, []⟩
def dBody (s : Stmt) : List Stmt := match s with
  | .FunctionDef _ _ b _ _ _ _ _ _ _ => b
  | _ => []
def dScope (s : Stmt) : Scope := match s with
  | .FunctionDef _ _ _ _ _ _ sc _ _ _ => sc
  | _ => ⟨.function, [], false, false, []⟩
def hs (P : Params) (x : Str) : Int := match x.cps.isEmpty with
  | true => 0
  | false => reduceHash (P.strHash x.cps)
def o0 (P : Params) : Obj := ⟨.type "dict", none, (.dict ⟨[⟨hs P "__name__", .str "__name__" 1, .str "builtins" 160⟩, ⟨hs P "__doc__", .str "__doc__" 2, .builtin "builtins.__doc__:str#opaque"⟩, ⟨hs P "__package__", .str "__package__" 3, .builtin "builtins.__package__:str#opaque"⟩, ⟨hs P "__loader__", .str "__loader__" 4, .builtin "builtins.__loader__:shared#opaque"⟩, ⟨hs P "__spec__", .str "__spec__" 5, .builtin "builtins.__spec__#opaque"⟩, ⟨hs P "__build_class__", .str "__build_class__" 6, .builtin "__build_class__"⟩, ⟨hs P "__import__", .str "__import__" 7, .builtin "__import__"⟩, ⟨hs P "abs", .str "abs" 8, .builtin "abs"⟩, ⟨hs P "all", .str "all" 9, .builtin "all"⟩, ⟨hs P "any", .str "any" 10, .builtin "any"⟩, ⟨hs P "ascii", .str "ascii" 11, .builtin "ascii"⟩, ⟨hs P "bin", .str "bin" 12, .builtin "bin"⟩, ⟨hs P "breakpoint", .str "breakpoint" 13, .builtin "breakpoint"⟩, ⟨hs P "callable", .str "callable" 14, .builtin "callable"⟩, ⟨hs P "chr", .str "chr" 15, .builtin "chr"⟩, ⟨hs P "compile", .str "compile" 16, .builtin "compile"⟩, ⟨hs P "delattr", .str "delattr" 17, .builtin "delattr"⟩, ⟨hs P "dir", .str "dir" 18, .builtin "dir"⟩, ⟨hs P "divmod", .str "divmod" 19, .builtin "divmod"⟩, ⟨hs P "eval", .str "eval" 20, .builtin "eval"⟩, ⟨hs P "exec", .str "exec" 21, .builtin "exec"⟩, ⟨hs P "format", .str "format" 22, .builtin "format"⟩, ⟨hs P "getattr", .str "getattr" 23, .builtin "getattr"⟩, ⟨hs P "globals", .str "globals" 24, .builtin "globals"⟩, ⟨hs P "hasattr", .str "hasattr" 25, .builtin "hasattr"⟩, ⟨hs P "hash", .str "hash" 26, .builtin "hash"⟩, ⟨hs P "hex", .str "hex" 27, .builtin "hex"⟩, ⟨hs P "id", .str "id" 28, .builtin "id"⟩, ⟨hs P "input", .str "input" 29, .builtin "input"⟩, ⟨hs P "isinstance", .str "isinstance" 30, .builtin "isinstance"⟩, ⟨hs P "issubclass", .str "issubclass" 31, .builtin "issubclass"⟩, ⟨hs P "iter", .str "iter" 32, .builtin "iter"⟩, ⟨hs P "aiter", .str "aiter" 33, .builtin "aiter"⟩, ⟨hs P "len", .str "len" 34, .builtin "len"⟩, ⟨hs P "locals", .str "locals" 35, .builtin "locals"⟩, ⟨hs P "max", .str "max" 36, .builtin "max"⟩, ⟨hs P "min", .str "min" 37, .builtin "min"⟩, ⟨hs P "next", .str "next" 38, .builtin "next"⟩, ⟨hs P "anext", .str "anext" 39, .builtin "anext"⟩, ⟨hs P "oct", .str "oct" 40, .builtin "oct"⟩, ⟨hs P "ord", .str "ord" 41, .builtin "ord"⟩, ⟨hs P "pow", .str "pow" 42, .builtin "pow"⟩, ⟨hs P "print", .str "print" 43, .builtin "print"⟩, ⟨hs P "repr", .str "repr" 44, .builtin "repr"⟩, ⟨hs P "round", .str "round" 45, .builtin "round"⟩, ⟨hs P "setattr", .str "setattr" 46, .builtin "setattr"⟩, ⟨hs P "sorted", .str "sorted" 47, .builtin "sorted"⟩, ⟨hs P "sum", .str "sum" 48, .builtin "sum"⟩, ⟨hs P "vars", .str "vars" 49, .builtin "vars"⟩, ⟨hs P "None", .str "None" 50, .none⟩, ⟨hs P "Ellipsis", .str "Ellipsis" 51, .ellipsis⟩, ⟨hs P "NotImplemented", .str "NotImplemented" 52, .notImplemented⟩, ⟨hs P "False", .str "False" 53, .bool false⟩, ⟨hs P "True", .str "True" 54, .bool true⟩, ⟨hs P "bool", .str "bool" 55, .type "bool"⟩, ⟨hs P "memoryview", .str "memoryview" 56, .type "memoryview"⟩, ⟨hs P "bytearray", .str "bytearray" 57, .type "bytearray"⟩, ⟨hs P "bytes", .str "bytes" 58, .type "bytes"⟩, ⟨hs P "classmethod", .str "classmethod" 59, .type "classmethod"⟩, ⟨hs P "complex", .str "complex" 60, .type "complex"⟩, ⟨hs P "dict", .str "dict" 61, .type "dict"⟩, ⟨hs P "enumerate", .str "enumerate" 62, .type "enumerate"⟩, ⟨hs P "filter", .str "filter" 63, .type "filter"⟩, ⟨hs P "float", .str "float" 64, .type "float"⟩, ⟨hs P "frozenset", .str "frozenset" 65, .type "frozenset"⟩, ⟨hs P "property", .str "property" 66, .type "property"⟩, ⟨hs P "int", .str "int" 67, .type "int"⟩, ⟨hs P "list", .str "list" 68, .type "list"⟩, ⟨hs P "map", .str "map" 69, .type "map"⟩, ⟨hs P "object", .str "object" 70, .type "object"⟩, ⟨hs P "range", .str "range" 71, .type "range"⟩, ⟨hs P "reversed", .str "reversed" 72, .type "reversed"⟩, ⟨hs P "set", .str "set" 73, .type "set"⟩, ⟨hs P "slice", .str "slice" 74, .type "slice"⟩, ⟨hs P "staticmethod", .str "staticmethod" 75, .type "staticmethod"⟩, ⟨hs P "str", .str "str" 76, .type "str"⟩, ⟨hs P "super", .str "super" 77, .type "super"⟩, ⟨hs P "tuple", .str "tuple" 78, .type "tuple"⟩, ⟨hs P "type", .str "type" 79, .type "type"⟩, ⟨hs P "zip", .str "zip" 80, .type "zip"⟩, ⟨hs P "__debug__", .str "__debug__" 81, .bool true⟩, ⟨hs P "BaseException", .str "BaseException" 82, .type "BaseException"⟩, ⟨hs P "BaseExceptionGroup", .str "BaseExceptionGroup" 83, .type "BaseExceptionGroup"⟩, ⟨hs P "Exception", .str "Exception" 84, .type "Exception"⟩, ⟨hs P "GeneratorExit", .str "GeneratorExit" 85, .type "GeneratorExit"⟩, ⟨hs P "KeyboardInterrupt", .str "KeyboardInterrupt" 86, .type "KeyboardInterrupt"⟩, ⟨hs P "SystemExit", .str "SystemExit" 87, .type "SystemExit"⟩, ⟨hs P "ArithmeticError", .str "ArithmeticError" 88, .type "ArithmeticError"⟩, ⟨hs P "AssertionError", .str "AssertionError" 89, .type "AssertionError"⟩, ⟨hs P "AttributeError", .str "AttributeError" 90, .type "AttributeError"⟩, ⟨hs P "BufferError", .str "BufferError" 91, .type "BufferError"⟩, ⟨hs P "EOFError", .str "EOFError" 92, .type "EOFError"⟩, ⟨hs P "ImportError", .str "ImportError" 93, .type "ImportError"⟩, ⟨hs P "LookupError", .str "LookupError" 94, .type "LookupError"⟩, ⟨hs P "MemoryError", .str "MemoryError" 95, .type "MemoryError"⟩, ⟨hs P "NameError", .str "NameError" 96, .type "NameError"⟩, ⟨hs P "OSError", .str "OSError" 97, .type "OSError"⟩, ⟨hs P "ReferenceError", .str "ReferenceError" 98, .type "ReferenceError"⟩, ⟨hs P "RuntimeError", .str "RuntimeError" 99, .type "RuntimeError"⟩, ⟨hs P "StopAsyncIteration", .str "StopAsyncIteration" 100, .type "StopAsyncIteration"⟩, ⟨hs P "StopIteration", .str "StopIteration" 101, .type "StopIteration"⟩, ⟨hs P "SyntaxError", .str "SyntaxError" 102, .type "SyntaxError"⟩, ⟨hs P "SystemError", .str "SystemError" 103, .type "SystemError"⟩, ⟨hs P "TypeError", .str "TypeError" 104, .type "TypeError"⟩, ⟨hs P "ValueError", .str "ValueError" 105, .type "ValueError"⟩, ⟨hs P "Warning", .str "Warning" 106, .type "Warning"⟩, ⟨hs P "FloatingPointError", .str "FloatingPointError" 107, .type "FloatingPointError"⟩, ⟨hs P "OverflowError", .str "OverflowError" 108, .type "OverflowError"⟩, ⟨hs P "ZeroDivisionError", .str "ZeroDivisionError" 109, .type "ZeroDivisionError"⟩, ⟨hs P "BytesWarning", .str "BytesWarning" 110, .type "BytesWarning"⟩, ⟨hs P "DeprecationWarning", .str "DeprecationWarning" 111, .type "DeprecationWarning"⟩, ⟨hs P "EncodingWarning", .str "EncodingWarning" 112, .type "EncodingWarning"⟩, ⟨hs P "FutureWarning", .str "FutureWarning" 113, .type "FutureWarning"⟩, ⟨hs P "ImportWarning", .str "ImportWarning" 114, .type "ImportWarning"⟩, ⟨hs P "PendingDeprecationWarning", .str "PendingDeprecationWarning" 115, .type "PendingDeprecationWarning"⟩, ⟨hs P "ResourceWarning", .str "ResourceWarning" 116, .type "ResourceWarning"⟩, ⟨hs P "RuntimeWarning", .str "RuntimeWarning" 117, .type "RuntimeWarning"⟩, ⟨hs P "SyntaxWarning", .str "SyntaxWarning" 118, .type "SyntaxWarning"⟩, ⟨hs P "UnicodeWarning", .str "UnicodeWarning" 119, .type "UnicodeWarning"⟩, ⟨hs P "UserWarning", .str "UserWarning" 120, .type "UserWarning"⟩, ⟨hs P "BlockingIOError", .str "BlockingIOError" 121, .type "BlockingIOError"⟩, ⟨hs P "ChildProcessError", .str "ChildProcessError" 122, .type "ChildProcessError"⟩, ⟨hs P "ConnectionError", .str "ConnectionError" 123, .type "ConnectionError"⟩, ⟨hs P "FileExistsError", .str "FileExistsError" 124, .type "FileExistsError"⟩, ⟨hs P "FileNotFoundError", .str "FileNotFoundError" 125, .type "FileNotFoundError"⟩, ⟨hs P "InterruptedError", .str "InterruptedError" 126, .type "InterruptedError"⟩, ⟨hs P "IsADirectoryError", .str "IsADirectoryError" 127, .type "IsADirectoryError"⟩, ⟨hs P "NotADirectoryError", .str "NotADirectoryError" 128, .type "NotADirectoryError"⟩, ⟨hs P "PermissionError", .str "PermissionError" 129, .type "PermissionError"⟩, ⟨hs P "ProcessLookupError", .str "ProcessLookupError" 130, .type "ProcessLookupError"⟩, ⟨hs P "TimeoutError", .str "TimeoutError" 131, .type "TimeoutError"⟩, ⟨hs P "IndentationError", .str "IndentationError" 132, .type "IndentationError"⟩, ⟨hs P "_IncompleteInputError", .str "_IncompleteInputError" 133, .type "_IncompleteInputError"⟩, ⟨hs P "IndexError", .str "IndexError" 134, .type "IndexError"⟩, ⟨hs P "KeyError", .str "KeyError" 135, .type "KeyError"⟩, ⟨hs P "ModuleNotFoundError", .str "ModuleNotFoundError" 136, .type "ModuleNotFoundError"⟩, ⟨hs P "NotImplementedError", .str "NotImplementedError" 137, .type "NotImplementedError"⟩, ⟨hs P "PythonFinalizationError", .str "PythonFinalizationError" 138, .type "PythonFinalizationError"⟩, ⟨hs P "RecursionError", .str "RecursionError" 139, .type "RecursionError"⟩, ⟨hs P "UnboundLocalError", .str "UnboundLocalError" 140, .type "UnboundLocalError"⟩, ⟨hs P "UnicodeError", .str "UnicodeError" 141, .type "UnicodeError"⟩, ⟨hs P "BrokenPipeError", .str "BrokenPipeError" 142, .type "BrokenPipeError"⟩, ⟨hs P "ConnectionAbortedError", .str "ConnectionAbortedError" 143, .type "ConnectionAbortedError"⟩, ⟨hs P "ConnectionRefusedError", .str "ConnectionRefusedError" 144, .type "ConnectionRefusedError"⟩, ⟨hs P "ConnectionResetError", .str "ConnectionResetError" 145, .type "ConnectionResetError"⟩, ⟨hs P "TabError", .str "TabError" 146, .type "TabError"⟩, ⟨hs P "UnicodeDecodeError", .str "UnicodeDecodeError" 147, .type "UnicodeDecodeError"⟩, ⟨hs P "UnicodeEncodeError", .str "UnicodeEncodeError" 148, .type "UnicodeEncodeError"⟩, ⟨hs P "UnicodeTranslateError", .str "UnicodeTranslateError" 149, .type "UnicodeTranslateError"⟩, ⟨hs P "ExceptionGroup", .str "ExceptionGroup" 150, .type "ExceptionGroup"⟩, ⟨hs P "EnvironmentError", .str "EnvironmentError" 151, .type "OSError"⟩, ⟨hs P "IOError", .str "IOError" 152, .type "OSError"⟩, ⟨hs P "open", .str "open" 153, .builtin "open"⟩, ⟨hs P "quit", .str "quit" 154, .builtin "builtins.quit#opaque"⟩, ⟨hs P "exit", .str "exit" 155, .builtin "builtins.exit#opaque"⟩, ⟨hs P "copyright", .str "copyright" 156, .builtin "builtins.copyright#opaque"⟩, ⟨hs P "credits", .str "credits" 157, .builtin "builtins.credits#opaque"⟩, ⟨hs P "license", .str "license" 158, .builtin "builtins.license#opaque"⟩, ⟨hs P "help", .str "help" 159, .builtin "builtins.help#opaque"⟩]⟩ 159), ⟨[]⟩⟩
def o1 (P : Params) : Obj := ⟨.type "dict", none, (.dict ⟨[⟨hs P "builtins", .str "builtins" 162, .ref 4⟩, ⟨hs P "__main__", .str "__main__" 163, .ref 5⟩]⟩ 2), ⟨[]⟩⟩
def o2 (P : Params) : Obj := ⟨.none, none, (.dict ⟨[]⟩ 0), ⟨[]⟩⟩
def o3 (P : Params) : Obj := ⟨.type "dict", none, (.dict ⟨[⟨hs P "__name__", .str "__name__" 165, .str "__main__" 164⟩, ⟨hs P "__doc__", .str "__doc__" 166, .none⟩, ⟨hs P "__package__", .str "__package__" 167, .none⟩, ⟨hs P "__loader__", .str "__loader__" 168, .builtin "__main__.__loader__#opaque"⟩, ⟨hs P "__spec__", .str "__spec__" 169, .none⟩, ⟨hs P "__annotations__", .str "__annotations__" 170, .ref 6⟩, ⟨hs P "__builtins__", .str "__builtins__" 171, .ref 4⟩, ⟨hs P "__file__", .str "__file__" 173, .str "/claim/cut.py" 172⟩, ⟨hs P "__cached__", .str "__cached__" 174, .none⟩]⟩ 9), ⟨[]⟩⟩
def o4 (P : Params) : Obj := ⟨.type "module", (some 0), .plain, ⟨[]⟩⟩
def o5 (P : Params) : Obj := ⟨.type "module", (some 3), .plain, ⟨[]⟩⟩
def o6 (P : Params) : Obj := ⟨.type "dict", none, (.dict ⟨[]⟩ 0), ⟨[]⟩⟩
def o7 (P : Params) : Obj := ⟨.type "tuple", none, (.seq ⟨[]⟩ 0), ⟨[]⟩⟩
def o8 (P : Params) : Obj := ⟨.none, none, (.fields ⟨[]⟩), ⟨[]⟩⟩
def o9 (P : Params) : Obj := ⟨.type "code", none, (.fields ⟨[.str "<module>" 176, .str "<module>" 177, .str "/claim/cut.py" 178, .int 1 0, .int 0 0, .int 0 0, .int 0 0, .int 0 0, .ref 7, .bool false, .int 175 0, .ref 8, .none, .none, .none, .none, .int 179 0, .int 1 0, .str "/claim/cut.py" 180]⟩), ⟨[]⟩⟩
def o10 (P : Params) : Obj := ⟨.type "frame", none, .plain, ⟨[(some (.ref 9)), (some (.ref 3)), (some (.ref 3)), none, (some (.str "__main__" 164)), none, (some (.ref 0))]⟩⟩
def o11 (P : Params) : Obj := ⟨.type "tuple", none, (.seq ⟨[]⟩ 0), ⟨[]⟩⟩
def o12 (P : Params) : Obj := ⟨.none, none, (.fields ⟨[]⟩), ⟨[]⟩⟩
def o13 (P : Params) : Obj := ⟨.type "code", none, (.fields ⟨[.str "<module>" 182, .str "<module>" 183, .str "/claim/cut.py" 184, .int 1 0, .int 0 0, .int 0 0, .int 0 0, .int 0 0, .ref 11, .bool false, .int 181 0, .ref 12, .none, .none, .none, .none, .int 185 0, .int 1 0, .str "/claim/cut.py" 186]⟩), ⟨[]⟩⟩
def o14 (P : Params) : Obj := ⟨.type "frame", none, .plain, ⟨[(some (.ref 13)), (some (.ref 3)), (some (.ref 3)), none, (some (.str "__main__" 164)), none, (some (.ref 0))]⟩⟩
def tpre (P : Params) : BT := (.node (o0 P) (.node (o1 P) (.node (o3 P) (.node (o7 P) .nil .nil) (.node (o11 P) .nil .nil)) (.node (o5 P) (.node (o9 P) .nil .nil) (.node (o13 P) .nil .nil))) (.node (o2 P) (.node (o4 P) (.node (o8 P) .nil .nil) (.node (o12 P) .nil .nil)) (.node (o6 P) (.node (o10 P) .nil .nil) (.node (o14 P) .nil .nil))))
def lpre : Life := ⟨[], [], [], 0, [], [], false, ⟨[]⟩, [], 0, false, false, false, 0, [2000, 10, 10], false, 0, true, [], [], 0, false⟩
def Spre (w : World) (os : OsState) : SharedT := ⟨tpre w.params, 15, lpre, ⟨[]⟩, ⟨0, 0, 0, 0⟩, 187, os⟩
def tblk (P : Params) : BT := (.node (o0 P) (.node (o1 P) (.node (o3 P) (.node (o7 P) .nil .nil) (.node (o11 P) .nil .nil)) (.node (o5 P) (.node (o9 P) .nil .nil) (.node (o13 P) .nil .nil))) (.node (o2 P) (.node (o4 P) (.node (o8 P) .nil .nil) (.node (o12 P) .nil .nil)) (.node (o6 P) (.node (o10 P) .nil .nil) (.node (o14 P) .nil .nil))))
def lblk : Life := ⟨[], [], [], 0, [], [], false, ⟨[]⟩, [], 0, false, false, false, 0, [2000, 10, 10], false, 0, true, [], [], 0, false⟩
def Sblk (w : World) (os : OsState) : SharedT := ⟨tblk w.params, 15, lblk, ⟨[]⟩, ⟨0, 0, 0, 0⟩, 187, os⟩
def o2_3 (P : Params) : Obj := ⟨.none, none, (.dict ⟨[⟨hs P "type.__subclasses__.Exception.0", .str "type.__subclasses__.Exception.0" 212, .int 31 0⟩, ⟨hs P "type.__subclasses__.Exception.n", .str "type.__subclasses__.Exception.n" 213, .int 1 0⟩]⟩ 2), ⟨[]⟩⟩
def o3_3 (P : Params) : Obj := ⟨.type "dict", none, (.dict ⟨[⟨hs P "__name__", .str "__name__" 165, .str "rulewardens.commands" 604⟩, ⟨hs P "__doc__", .str "__doc__" 166, .none⟩, ⟨hs P "__package__", .str "__package__" 167, .none⟩, ⟨hs P "__loader__", .str "__loader__" 168, .builtin "__main__.__loader__#opaque"⟩, ⟨hs P "__spec__", .str "__spec__" 169, .none⟩, ⟨hs P "__annotations__", .str "__annotations__" 170, .ref 6⟩, ⟨hs P "__builtins__", .str "__builtins__" 171, .ref 4⟩, ⟨hs P "__file__", .str "__file__" 173, .str "/claim/cut.py" 172⟩, ⟨hs P "__cached__", .str "__cached__" 174, .none⟩, ⟨hs P "_wall", .str "_wall" 193, .ref 21⟩, ⟨hs P "WardError", .str "WardError" 215, .ref 31⟩, ⟨hs P "BadBook", .str "BadBook" 242, .ref 53⟩, ⟨hs P "BadDevice", .str "BadDevice" 269, .ref 74⟩, ⟨hs P "BadWard", .str "BadWard" 296, .ref 95⟩, ⟨hs P "BadText", .str "BadText" 323, .ref 116⟩, ⟨hs P "TooMany", .str "TooMany" 350, .ref 137⟩, ⟨hs P "BadOnlooker", .str "BadOnlooker" 377, .ref 158⟩, ⟨hs P "OtherFaces", .str "OtherFaces" 393, .ref 170⟩, ⟨hs P "BadName", .str "BadName" 420, .ref 191⟩, ⟨hs P "NameTaken", .str "NameTaken" 447, .ref 212⟩, ⟨hs P "NoWard", .str "NoWard" 474, .ref 233⟩, ⟨hs P "NotHeard", .str "NotHeard" 501, .ref 254⟩, ⟨hs P "NotAlike", .str "NotAlike" 528, .ref 275⟩, ⟨hs P "Harmful", .str "Harmful" 555, .ref 296⟩, ⟨hs P "NothingToUndo", .str "NothingToUndo" 571, .ref 308⟩, ⟨hs P "NothingToRedo", .str "NothingToRedo" 587, .ref 320⟩, ⟨hs P "InvalidCommand", .str "InvalidCommand" 603, .ref 332⟩]⟩ 27), ⟨[]⟩⟩
def o12_3 (P : Params) : Obj := ⟨.none, none, (.fields ⟨[.int 1 0, .int 0 0, .ref 20, .int 5 0, .int 0 0, .ref 27, .int 7 0, .int 0 0, .ref 41, .int 12 0, .int 0 0, .ref 62, .int 17 0, .int 0 0, .ref 83, .int 22 0, .int 0 0, .ref 104, .int 27 0, .int 0 0, .ref 125, .int 32 0, .int 0 0, .ref 146, .int 37 0, .int 0 0, .ref 166, .int 39 0, .int 0 0, .ref 179, .int 44 0, .int 0 0, .ref 200, .int 49 0, .int 0 0, .ref 221, .int 54 0, .int 0 0, .ref 242, .int 59 0, .int 0 0, .ref 263, .int 64 0, .int 0 0, .ref 284, .int 69 0, .int 0 0, .ref 304, .int 71 0, .int 0 0, .ref 316, .int 73 0, .int 0 0, .ref 328]⟩), ⟨[]⟩⟩
def o15 (P : Params) : Obj := ⟨.type "tuple", none, (.seq ⟨[]⟩ 0), ⟨[]⟩⟩
def o16 (P : Params) : Obj := ⟨.none, none, (.fields ⟨[]⟩), ⟨[]⟩⟩
def o17 (P : Params) : Obj := ⟨.type "tuple", none, (.seq ⟨[.str "k" 190]⟩ 0), ⟨[]⟩⟩
def o18 (P : Params) : Obj := ⟨.type "tuple", none, (.seq ⟨[]⟩ 0), ⟨[]⟩⟩
def o19 (P : Params) : Obj := ⟨.none, none, (.func ⟨"_wall", "_wall", dArgs (top 0), .stmts (dBody (top 0)), dScope (top 0), 0, [], .none, .none, .none, .none, none, .none, .none, 0⟩), ⟨[]⟩⟩
def o20 (P : Params) : Obj := ⟨.type "code", none, (.fields ⟨[.str "_wall" 187, .str "_wall" 188, .str "/claim/cut.py" 189, .int 1 0, .int 1 0, .int 0 0, .int 0 0, .int 3 0, .ref 15, .bool true, .int 181 0, .ref 16, .none, .ref 17, .ref 18, .ref 19, .int 191 0, .int 1 0, .str "/claim/cut.py" 192]⟩), ⟨[]⟩⟩
def o21 (P : Params) : Obj := ⟨.type "function", none, (.func ⟨"_wall", "_wall", dArgs (top 0), .stmts (dBody (top 0)), dScope (top 0), 3, [], .none, .none, .none, .str "__main__" 164, none, .ref 20, .none, 0⟩), ⟨[]⟩⟩
def o22 (P : Params) : Obj := ⟨.type "tuple", none, (.seq ⟨[.type "Exception"]⟩ 0), ⟨[]⟩⟩
def o23 (P : Params) : Obj := ⟨.type "builtin_function_or_method", none, (.fields ⟨[.builtin "type.__prepare__", .type "type"]⟩), ⟨[]⟩⟩
def o24 (P : Params) : Obj := ⟨.type "dict", none, (.dict ⟨[⟨hs P "__module__", .str "__module__" 203, .str "rulewardens.errors" 194⟩, ⟨hs P "__qualname__", .str "__qualname__" 205, .str "WardError" 204⟩, ⟨hs P "__firstlineno__", .str "__firstlineno__" 207, .int 5 206⟩, ⟨hs P "__static_attributes__", .str "__static_attributes__" 208, .ref 29⟩]⟩ 4), ⟨[]⟩⟩
def o25 (P : Params) : Obj := ⟨.type "tuple", none, (.seq ⟨[]⟩ 0), ⟨[]⟩⟩
def o26 (P : Params) : Obj := ⟨.none, none, (.fields ⟨[]⟩), ⟨[]⟩⟩
def o27 (P : Params) : Obj := ⟨.type "code", none, (.fields ⟨[.str "WardError" 198, .str "WardError" 199, .str "/claim/cut.py" 200, .int 5 0, .int 0 0, .int 0 0, .int 0 0, .int 0 0, .ref 25, .bool false, .int 181 0, .ref 26, .none, .none, .none, .none, .int 201 0, .int 5 0, .str "/claim/cut.py" 202]⟩), ⟨[]⟩⟩
def o28 (P : Params) : Obj := ⟨.type "frame", none, .plain, ⟨[(some (.ref 27)), (some (.ref 3)), (some (.ref 24)), none, (some (.str "rulewardens.errors" 194)), none, (some (.ref 0))]⟩⟩
def o29 (P : Params) : Obj := ⟨.type "tuple", none, (.seq ⟨[]⟩ 0), ⟨[]⟩⟩
def o30 (P : Params) : Obj := ⟨.type "dict", none, (.dict ⟨[⟨hs P "__module__", .str "__module__" 203, .str "rulewardens.errors" 194⟩, ⟨hs P "__firstlineno__", .str "__firstlineno__" 207, .int 5 206⟩, ⟨hs P "__static_attributes__", .str "__static_attributes__" 208, .ref 29⟩, ⟨hs P "__weakref__", .str "__weakref__" 210, .ref 32⟩, ⟨hs P "__doc__", .str "__doc__" 211, .none⟩]⟩ 3), ⟨[]⟩⟩
def o31 (P : Params) : Obj := ⟨.type "type", none, (.cls ⟨"WardError", [.type "Exception"], [.ref 31, .type "Exception", .type "BaseException", .type "object"], 30, "WardError", true, [], [.ref 53, .ref 74, .ref 95, .ref 116, .ref 137, .ref 158, .ref 170, .ref 191, .ref 212, .ref 233, .ref 254, .ref 275, .ref 296, .ref 308, .ref 320, .ref 332], false, none, false⟩), ⟨[(some (.ref 22)), none, (some (.str "WardError" 196)), (some (.str "WardError" 204)), (some (.builtin "Exception.__new__")), (some (.bool true))]⟩⟩
def o32 (P : Params) : Obj := ⟨.type "getset_descriptor", none, (.fields ⟨[.str "__weakref__" 209, .ref 31, .builtin "ExceptionGroup.__weakref__", .none]⟩), ⟨[]⟩⟩
def o33 (P : Params) : Obj := ⟨.type "super", none, (.fields ⟨[.ref 31, .ref 31, .ref 31]⟩), ⟨[]⟩⟩
def o34 (P : Params) : Obj := ⟨.type "builtin_function_or_method", none, (.fields ⟨[.builtin "object.__init_subclass__", .ref 31]⟩), ⟨[]⟩⟩
def o35 (P : Params) : Obj := ⟨.type "tuple", none, (.seq ⟨[.ref 31]⟩ 0), ⟨[]⟩⟩
def o36 (P : Params) : Obj := ⟨.type "builtin_function_or_method", none, (.fields ⟨[.builtin "type.__prepare__", .type "type"]⟩), ⟨[]⟩⟩
def o37 (P : Params) : Obj := ⟨.type "dict", none, (.dict ⟨[⟨hs P "__module__", .str "__module__" 223, .str "rulewardens.errors" 194⟩, ⟨hs P "__qualname__", .str "__qualname__" 225, .str "BadBook" 224⟩, ⟨hs P "__firstlineno__", .str "__firstlineno__" 227, .int 7 226⟩, ⟨hs P "__init__", .str "__init__" 236, .ref 50⟩, ⟨hs P "__static_attributes__", .str "__static_attributes__" 238, .ref 51⟩, ⟨hs P "__classcell__", .str "__classcell__" 239, .ref 38⟩]⟩ 6), ⟨[]⟩⟩
def o38 (P : Params) : Obj := ⟨.type "cell", none, (.cell (some (.ref 53))), ⟨[]⟩⟩
def o39 (P : Params) : Obj := ⟨.type "tuple", none, (.seq ⟨[]⟩ 0), ⟨[]⟩⟩
def o40 (P : Params) : Obj := ⟨.none, none, (.fields ⟨[.int 9 0, .int 4 0, .ref 49]⟩), ⟨[]⟩⟩
def o41 (P : Params) : Obj := ⟨.type "code", none, (.fields ⟨[.str "BadBook" 218, .str "BadBook" 219, .str "/claim/cut.py" 220, .int 7 0, .int 0 0, .int 0 0, .int 0 0, .int 0 0, .ref 39, .bool false, .int 181 0, .ref 40, .none, .none, .none, .none, .int 221 0, .int 7 0, .str "/claim/cut.py" 222]⟩), ⟨[]⟩⟩
def o42 (P : Params) : Obj := ⟨.type "frame", none, .plain, ⟨[(some (.ref 41)), (some (.ref 3)), (some (.ref 37)), none, (some (.str "rulewardens.errors" 194)), none, (some (.ref 0))]⟩⟩
def o43 (P : Params) : Obj := ⟨.type "tuple", none, (.seq ⟨[.ref 38]⟩ 0), ⟨[]⟩⟩
def o44 (P : Params) : Obj := ⟨.type "tuple", none, (.seq ⟨[.str "__class__" 231]⟩ 0), ⟨[]⟩⟩
def o45 (P : Params) : Obj := ⟨.none, none, (.fields ⟨[]⟩), ⟨[]⟩⟩
def o46 (P : Params) : Obj := ⟨.type "tuple", none, (.seq ⟨[.str "self" 232, .str "part" 233]⟩ 0), ⟨[]⟩⟩
def o47 (P : Params) : Obj := ⟨.type "tuple", none, (.seq ⟨[]⟩ 0), ⟨[]⟩⟩
def o48 (P : Params) : Obj := ⟨.none, none, (.func ⟨"__init__", "BadBook.__init__", dArgs (inC (top 3) 0), .stmts (dBody (inC (top 3) 0)), dScope (inC (top 3) 0), 0, [], .none, .none, .none, .none, none, .none, .none, 0⟩), ⟨[]⟩⟩
def o49 (P : Params) : Obj := ⟨.type "code", none, (.fields ⟨[.str "__init__" 228, .str "BadBook.__init__" 229, .str "/claim/cut.py" 230, .int 9 0, .int 2 0, .int 0 0, .int 0 0, .int 3 0, .ref 44, .bool true, .int 181 0, .ref 45, .none, .ref 46, .ref 47, .ref 48, .int 234 0, .int 9 0, .str "/claim/cut.py" 235]⟩), ⟨[]⟩⟩
def o50 (P : Params) : Obj := ⟨.type "function", none, (.func ⟨"__init__", "BadBook.__init__", dArgs (inC (top 3) 0), .stmts (dBody (inC (top 3) 0)), dScope (inC (top 3) 0), 3, [("__class__", 38)], .none, .none, .none, .str "rulewardens.errors" 194, none, .ref 49, .ref 43, 0⟩), ⟨[]⟩⟩
def o51 (P : Params) : Obj := ⟨.type "tuple", none, (.seq ⟨[.str "part" 237]⟩ 0), ⟨[]⟩⟩
def o52 (P : Params) : Obj := ⟨.type "dict", none, (.dict ⟨[⟨hs P "__module__", .str "__module__" 223, .str "rulewardens.errors" 194⟩, ⟨hs P "__firstlineno__", .str "__firstlineno__" 227, .int 7 226⟩, ⟨hs P "__init__", .str "__init__" 236, .ref 50⟩, ⟨hs P "__static_attributes__", .str "__static_attributes__" 238, .ref 51⟩, ⟨hs P "__doc__", .str "__doc__" 240, .none⟩]⟩ 3), ⟨[]⟩⟩
def o53 (P : Params) : Obj := ⟨.type "type", none, (.cls ⟨"BadBook", [.ref 31], [.ref 53, .ref 31, .type "Exception", .type "BaseException", .type "object"], 52, "BadBook", true, [], [], false, none, false⟩), ⟨[(some (.ref 35)), none, (some (.str "BadBook" 216)), (some (.str "BadBook" 224)), (some (.builtin "Exception.__new__")), (some (.bool true))]⟩⟩
def o54 (P : Params) : Obj := ⟨.type "super", none, (.fields ⟨[.ref 53, .ref 53, .ref 53]⟩), ⟨[]⟩⟩
def o55 (P : Params) : Obj := ⟨.type "builtin_function_or_method", none, (.fields ⟨[.builtin "object.__init_subclass__", .ref 53]⟩), ⟨[]⟩⟩
def o56 (P : Params) : Obj := ⟨.type "tuple", none, (.seq ⟨[.ref 31]⟩ 0), ⟨[]⟩⟩
def o57 (P : Params) : Obj := ⟨.type "builtin_function_or_method", none, (.fields ⟨[.builtin "type.__prepare__", .type "type"]⟩), ⟨[]⟩⟩
def o58 (P : Params) : Obj := ⟨.type "dict", none, (.dict ⟨[⟨hs P "__module__", .str "__module__" 250, .str "rulewardens.errors" 194⟩, ⟨hs P "__qualname__", .str "__qualname__" 252, .str "BadDevice" 251⟩, ⟨hs P "__firstlineno__", .str "__firstlineno__" 254, .int 12 253⟩, ⟨hs P "__init__", .str "__init__" 263, .ref 71⟩, ⟨hs P "__static_attributes__", .str "__static_attributes__" 265, .ref 72⟩, ⟨hs P "__classcell__", .str "__classcell__" 266, .ref 59⟩]⟩ 6), ⟨[]⟩⟩
def o59 (P : Params) : Obj := ⟨.type "cell", none, (.cell (some (.ref 74))), ⟨[]⟩⟩
def o60 (P : Params) : Obj := ⟨.type "tuple", none, (.seq ⟨[]⟩ 0), ⟨[]⟩⟩
def o61 (P : Params) : Obj := ⟨.none, none, (.fields ⟨[.int 14 0, .int 4 0, .ref 70]⟩), ⟨[]⟩⟩
def o62 (P : Params) : Obj := ⟨.type "code", none, (.fields ⟨[.str "BadDevice" 245, .str "BadDevice" 246, .str "/claim/cut.py" 247, .int 12 0, .int 0 0, .int 0 0, .int 0 0, .int 0 0, .ref 60, .bool false, .int 181 0, .ref 61, .none, .none, .none, .none, .int 248 0, .int 12 0, .str "/claim/cut.py" 249]⟩), ⟨[]⟩⟩
def o63 (P : Params) : Obj := ⟨.type "frame", none, .plain, ⟨[(some (.ref 62)), (some (.ref 3)), (some (.ref 58)), none, (some (.str "rulewardens.errors" 194)), none, (some (.ref 0))]⟩⟩
def o64 (P : Params) : Obj := ⟨.type "tuple", none, (.seq ⟨[.ref 59]⟩ 0), ⟨[]⟩⟩
def o65 (P : Params) : Obj := ⟨.type "tuple", none, (.seq ⟨[.str "__class__" 258]⟩ 0), ⟨[]⟩⟩
def o66 (P : Params) : Obj := ⟨.none, none, (.fields ⟨[]⟩), ⟨[]⟩⟩
def o67 (P : Params) : Obj := ⟨.type "tuple", none, (.seq ⟨[.str "self" 259, .str "part" 260]⟩ 0), ⟨[]⟩⟩
def o68 (P : Params) : Obj := ⟨.type "tuple", none, (.seq ⟨[]⟩ 0), ⟨[]⟩⟩
def o69 (P : Params) : Obj := ⟨.none, none, (.func ⟨"__init__", "BadDevice.__init__", dArgs (inC (top 4) 0), .stmts (dBody (inC (top 4) 0)), dScope (inC (top 4) 0), 0, [], .none, .none, .none, .none, none, .none, .none, 0⟩), ⟨[]⟩⟩
def o70 (P : Params) : Obj := ⟨.type "code", none, (.fields ⟨[.str "__init__" 255, .str "BadDevice.__init__" 256, .str "/claim/cut.py" 257, .int 14 0, .int 2 0, .int 0 0, .int 0 0, .int 3 0, .ref 65, .bool true, .int 181 0, .ref 66, .none, .ref 67, .ref 68, .ref 69, .int 261 0, .int 14 0, .str "/claim/cut.py" 262]⟩), ⟨[]⟩⟩
def o71 (P : Params) : Obj := ⟨.type "function", none, (.func ⟨"__init__", "BadDevice.__init__", dArgs (inC (top 4) 0), .stmts (dBody (inC (top 4) 0)), dScope (inC (top 4) 0), 3, [("__class__", 59)], .none, .none, .none, .str "rulewardens.errors" 194, none, .ref 70, .ref 64, 0⟩), ⟨[]⟩⟩
def o72 (P : Params) : Obj := ⟨.type "tuple", none, (.seq ⟨[.str "part" 264]⟩ 0), ⟨[]⟩⟩
def o73 (P : Params) : Obj := ⟨.type "dict", none, (.dict ⟨[⟨hs P "__module__", .str "__module__" 250, .str "rulewardens.errors" 194⟩, ⟨hs P "__firstlineno__", .str "__firstlineno__" 254, .int 12 253⟩, ⟨hs P "__init__", .str "__init__" 263, .ref 71⟩, ⟨hs P "__static_attributes__", .str "__static_attributes__" 265, .ref 72⟩, ⟨hs P "__doc__", .str "__doc__" 267, .none⟩]⟩ 3), ⟨[]⟩⟩
def o74 (P : Params) : Obj := ⟨.type "type", none, (.cls ⟨"BadDevice", [.ref 31], [.ref 74, .ref 31, .type "Exception", .type "BaseException", .type "object"], 73, "BadDevice", true, [], [], false, none, false⟩), ⟨[(some (.ref 56)), none, (some (.str "BadDevice" 243)), (some (.str "BadDevice" 251)), (some (.builtin "Exception.__new__")), (some (.bool true))]⟩⟩
def o75 (P : Params) : Obj := ⟨.type "super", none, (.fields ⟨[.ref 74, .ref 74, .ref 74]⟩), ⟨[]⟩⟩
def o76 (P : Params) : Obj := ⟨.type "builtin_function_or_method", none, (.fields ⟨[.builtin "object.__init_subclass__", .ref 74]⟩), ⟨[]⟩⟩
def o77 (P : Params) : Obj := ⟨.type "tuple", none, (.seq ⟨[.ref 31]⟩ 0), ⟨[]⟩⟩
def o78 (P : Params) : Obj := ⟨.type "builtin_function_or_method", none, (.fields ⟨[.builtin "type.__prepare__", .type "type"]⟩), ⟨[]⟩⟩
def o79 (P : Params) : Obj := ⟨.type "dict", none, (.dict ⟨[⟨hs P "__module__", .str "__module__" 277, .str "rulewardens.errors" 194⟩, ⟨hs P "__qualname__", .str "__qualname__" 279, .str "BadWard" 278⟩, ⟨hs P "__firstlineno__", .str "__firstlineno__" 281, .int 17 280⟩, ⟨hs P "__init__", .str "__init__" 290, .ref 92⟩, ⟨hs P "__static_attributes__", .str "__static_attributes__" 292, .ref 93⟩, ⟨hs P "__classcell__", .str "__classcell__" 293, .ref 80⟩]⟩ 6), ⟨[]⟩⟩
def o80 (P : Params) : Obj := ⟨.type "cell", none, (.cell (some (.ref 95))), ⟨[]⟩⟩
def o81 (P : Params) : Obj := ⟨.type "tuple", none, (.seq ⟨[]⟩ 0), ⟨[]⟩⟩
def o82 (P : Params) : Obj := ⟨.none, none, (.fields ⟨[.int 19 0, .int 4 0, .ref 91]⟩), ⟨[]⟩⟩
def o83 (P : Params) : Obj := ⟨.type "code", none, (.fields ⟨[.str "BadWard" 272, .str "BadWard" 273, .str "/claim/cut.py" 274, .int 17 0, .int 0 0, .int 0 0, .int 0 0, .int 0 0, .ref 81, .bool false, .int 181 0, .ref 82, .none, .none, .none, .none, .int 275 0, .int 17 0, .str "/claim/cut.py" 276]⟩), ⟨[]⟩⟩
def o84 (P : Params) : Obj := ⟨.type "frame", none, .plain, ⟨[(some (.ref 83)), (some (.ref 3)), (some (.ref 79)), none, (some (.str "rulewardens.errors" 194)), none, (some (.ref 0))]⟩⟩
def o85 (P : Params) : Obj := ⟨.type "tuple", none, (.seq ⟨[.ref 80]⟩ 0), ⟨[]⟩⟩
def o86 (P : Params) : Obj := ⟨.type "tuple", none, (.seq ⟨[.str "__class__" 285]⟩ 0), ⟨[]⟩⟩
def o87 (P : Params) : Obj := ⟨.none, none, (.fields ⟨[]⟩), ⟨[]⟩⟩
def o88 (P : Params) : Obj := ⟨.type "tuple", none, (.seq ⟨[.str "self" 286, .str "part" 287]⟩ 0), ⟨[]⟩⟩
def o89 (P : Params) : Obj := ⟨.type "tuple", none, (.seq ⟨[]⟩ 0), ⟨[]⟩⟩
def o90 (P : Params) : Obj := ⟨.none, none, (.func ⟨"__init__", "BadWard.__init__", dArgs (inC (top 5) 0), .stmts (dBody (inC (top 5) 0)), dScope (inC (top 5) 0), 0, [], .none, .none, .none, .none, none, .none, .none, 0⟩), ⟨[]⟩⟩
def o91 (P : Params) : Obj := ⟨.type "code", none, (.fields ⟨[.str "__init__" 282, .str "BadWard.__init__" 283, .str "/claim/cut.py" 284, .int 19 0, .int 2 0, .int 0 0, .int 0 0, .int 3 0, .ref 86, .bool true, .int 181 0, .ref 87, .none, .ref 88, .ref 89, .ref 90, .int 288 0, .int 19 0, .str "/claim/cut.py" 289]⟩), ⟨[]⟩⟩
def o92 (P : Params) : Obj := ⟨.type "function", none, (.func ⟨"__init__", "BadWard.__init__", dArgs (inC (top 5) 0), .stmts (dBody (inC (top 5) 0)), dScope (inC (top 5) 0), 3, [("__class__", 80)], .none, .none, .none, .str "rulewardens.errors" 194, none, .ref 91, .ref 85, 0⟩), ⟨[]⟩⟩
def o93 (P : Params) : Obj := ⟨.type "tuple", none, (.seq ⟨[.str "part" 291]⟩ 0), ⟨[]⟩⟩
def o94 (P : Params) : Obj := ⟨.type "dict", none, (.dict ⟨[⟨hs P "__module__", .str "__module__" 277, .str "rulewardens.errors" 194⟩, ⟨hs P "__firstlineno__", .str "__firstlineno__" 281, .int 17 280⟩, ⟨hs P "__init__", .str "__init__" 290, .ref 92⟩, ⟨hs P "__static_attributes__", .str "__static_attributes__" 292, .ref 93⟩, ⟨hs P "__doc__", .str "__doc__" 294, .none⟩]⟩ 3), ⟨[]⟩⟩
def o95 (P : Params) : Obj := ⟨.type "type", none, (.cls ⟨"BadWard", [.ref 31], [.ref 95, .ref 31, .type "Exception", .type "BaseException", .type "object"], 94, "BadWard", true, [], [], false, none, false⟩), ⟨[(some (.ref 77)), none, (some (.str "BadWard" 270)), (some (.str "BadWard" 278)), (some (.builtin "Exception.__new__")), (some (.bool true))]⟩⟩
def o96 (P : Params) : Obj := ⟨.type "super", none, (.fields ⟨[.ref 95, .ref 95, .ref 95]⟩), ⟨[]⟩⟩
def o97 (P : Params) : Obj := ⟨.type "builtin_function_or_method", none, (.fields ⟨[.builtin "object.__init_subclass__", .ref 95]⟩), ⟨[]⟩⟩
def o98 (P : Params) : Obj := ⟨.type "tuple", none, (.seq ⟨[.ref 31]⟩ 0), ⟨[]⟩⟩
def o99 (P : Params) : Obj := ⟨.type "builtin_function_or_method", none, (.fields ⟨[.builtin "type.__prepare__", .type "type"]⟩), ⟨[]⟩⟩
def o100 (P : Params) : Obj := ⟨.type "dict", none, (.dict ⟨[⟨hs P "__module__", .str "__module__" 304, .str "rulewardens.errors" 194⟩, ⟨hs P "__qualname__", .str "__qualname__" 306, .str "BadText" 305⟩, ⟨hs P "__firstlineno__", .str "__firstlineno__" 308, .int 22 307⟩, ⟨hs P "__init__", .str "__init__" 317, .ref 113⟩, ⟨hs P "__static_attributes__", .str "__static_attributes__" 319, .ref 114⟩, ⟨hs P "__classcell__", .str "__classcell__" 320, .ref 101⟩]⟩ 6), ⟨[]⟩⟩
def o101 (P : Params) : Obj := ⟨.type "cell", none, (.cell (some (.ref 116))), ⟨[]⟩⟩
def o102 (P : Params) : Obj := ⟨.type "tuple", none, (.seq ⟨[]⟩ 0), ⟨[]⟩⟩
def o103 (P : Params) : Obj := ⟨.none, none, (.fields ⟨[.int 24 0, .int 4 0, .ref 112]⟩), ⟨[]⟩⟩
def o104 (P : Params) : Obj := ⟨.type "code", none, (.fields ⟨[.str "BadText" 299, .str "BadText" 300, .str "/claim/cut.py" 301, .int 22 0, .int 0 0, .int 0 0, .int 0 0, .int 0 0, .ref 102, .bool false, .int 181 0, .ref 103, .none, .none, .none, .none, .int 302 0, .int 22 0, .str "/claim/cut.py" 303]⟩), ⟨[]⟩⟩
def o105 (P : Params) : Obj := ⟨.type "frame", none, .plain, ⟨[(some (.ref 104)), (some (.ref 3)), (some (.ref 100)), none, (some (.str "rulewardens.errors" 194)), none, (some (.ref 0))]⟩⟩
def o106 (P : Params) : Obj := ⟨.type "tuple", none, (.seq ⟨[.ref 101]⟩ 0), ⟨[]⟩⟩
def o107 (P : Params) : Obj := ⟨.type "tuple", none, (.seq ⟨[.str "__class__" 312]⟩ 0), ⟨[]⟩⟩
def o108 (P : Params) : Obj := ⟨.none, none, (.fields ⟨[]⟩), ⟨[]⟩⟩
def o109 (P : Params) : Obj := ⟨.type "tuple", none, (.seq ⟨[.str "self" 313, .str "line" 314]⟩ 0), ⟨[]⟩⟩
def o110 (P : Params) : Obj := ⟨.type "tuple", none, (.seq ⟨[]⟩ 0), ⟨[]⟩⟩
def o111 (P : Params) : Obj := ⟨.none, none, (.func ⟨"__init__", "BadText.__init__", dArgs (inC (top 6) 0), .stmts (dBody (inC (top 6) 0)), dScope (inC (top 6) 0), 0, [], .none, .none, .none, .none, none, .none, .none, 0⟩), ⟨[]⟩⟩
def o112 (P : Params) : Obj := ⟨.type "code", none, (.fields ⟨[.str "__init__" 309, .str "BadText.__init__" 310, .str "/claim/cut.py" 311, .int 24 0, .int 2 0, .int 0 0, .int 0 0, .int 3 0, .ref 107, .bool true, .int 181 0, .ref 108, .none, .ref 109, .ref 110, .ref 111, .int 315 0, .int 24 0, .str "/claim/cut.py" 316]⟩), ⟨[]⟩⟩
def o113 (P : Params) : Obj := ⟨.type "function", none, (.func ⟨"__init__", "BadText.__init__", dArgs (inC (top 6) 0), .stmts (dBody (inC (top 6) 0)), dScope (inC (top 6) 0), 3, [("__class__", 101)], .none, .none, .none, .str "rulewardens.errors" 194, none, .ref 112, .ref 106, 0⟩), ⟨[]⟩⟩
def o114 (P : Params) : Obj := ⟨.type "tuple", none, (.seq ⟨[.str "line" 318]⟩ 0), ⟨[]⟩⟩
def o115 (P : Params) : Obj := ⟨.type "dict", none, (.dict ⟨[⟨hs P "__module__", .str "__module__" 304, .str "rulewardens.errors" 194⟩, ⟨hs P "__firstlineno__", .str "__firstlineno__" 308, .int 22 307⟩, ⟨hs P "__init__", .str "__init__" 317, .ref 113⟩, ⟨hs P "__static_attributes__", .str "__static_attributes__" 319, .ref 114⟩, ⟨hs P "__doc__", .str "__doc__" 321, .none⟩]⟩ 3), ⟨[]⟩⟩
def o116 (P : Params) : Obj := ⟨.type "type", none, (.cls ⟨"BadText", [.ref 31], [.ref 116, .ref 31, .type "Exception", .type "BaseException", .type "object"], 115, "BadText", true, [], [], false, none, false⟩), ⟨[(some (.ref 98)), none, (some (.str "BadText" 297)), (some (.str "BadText" 305)), (some (.builtin "Exception.__new__")), (some (.bool true))]⟩⟩
def o117 (P : Params) : Obj := ⟨.type "super", none, (.fields ⟨[.ref 116, .ref 116, .ref 116]⟩), ⟨[]⟩⟩
def o118 (P : Params) : Obj := ⟨.type "builtin_function_or_method", none, (.fields ⟨[.builtin "object.__init_subclass__", .ref 116]⟩), ⟨[]⟩⟩
def o119 (P : Params) : Obj := ⟨.type "tuple", none, (.seq ⟨[.ref 31]⟩ 0), ⟨[]⟩⟩
def o120 (P : Params) : Obj := ⟨.type "builtin_function_or_method", none, (.fields ⟨[.builtin "type.__prepare__", .type "type"]⟩), ⟨[]⟩⟩
def o121 (P : Params) : Obj := ⟨.type "dict", none, (.dict ⟨[⟨hs P "__module__", .str "__module__" 331, .str "rulewardens.errors" 194⟩, ⟨hs P "__qualname__", .str "__qualname__" 333, .str "TooMany" 332⟩, ⟨hs P "__firstlineno__", .str "__firstlineno__" 335, .int 27 334⟩, ⟨hs P "__init__", .str "__init__" 344, .ref 134⟩, ⟨hs P "__static_attributes__", .str "__static_attributes__" 346, .ref 135⟩, ⟨hs P "__classcell__", .str "__classcell__" 347, .ref 122⟩]⟩ 6), ⟨[]⟩⟩
def o122 (P : Params) : Obj := ⟨.type "cell", none, (.cell (some (.ref 137))), ⟨[]⟩⟩
def o123 (P : Params) : Obj := ⟨.type "tuple", none, (.seq ⟨[]⟩ 0), ⟨[]⟩⟩
def o124 (P : Params) : Obj := ⟨.none, none, (.fields ⟨[.int 29 0, .int 4 0, .ref 133]⟩), ⟨[]⟩⟩
def o125 (P : Params) : Obj := ⟨.type "code", none, (.fields ⟨[.str "TooMany" 326, .str "TooMany" 327, .str "/claim/cut.py" 328, .int 27 0, .int 0 0, .int 0 0, .int 0 0, .int 0 0, .ref 123, .bool false, .int 181 0, .ref 124, .none, .none, .none, .none, .int 329 0, .int 27 0, .str "/claim/cut.py" 330]⟩), ⟨[]⟩⟩
def o126 (P : Params) : Obj := ⟨.type "frame", none, .plain, ⟨[(some (.ref 125)), (some (.ref 3)), (some (.ref 121)), none, (some (.str "rulewardens.errors" 194)), none, (some (.ref 0))]⟩⟩
def o127 (P : Params) : Obj := ⟨.type "tuple", none, (.seq ⟨[.ref 122]⟩ 0), ⟨[]⟩⟩
def o128 (P : Params) : Obj := ⟨.type "tuple", none, (.seq ⟨[.str "__class__" 339]⟩ 0), ⟨[]⟩⟩
def o129 (P : Params) : Obj := ⟨.none, none, (.fields ⟨[]⟩), ⟨[]⟩⟩
def o130 (P : Params) : Obj := ⟨.type "tuple", none, (.seq ⟨[.str "self" 340, .str "most" 341]⟩ 0), ⟨[]⟩⟩
def o131 (P : Params) : Obj := ⟨.type "tuple", none, (.seq ⟨[]⟩ 0), ⟨[]⟩⟩
def o132 (P : Params) : Obj := ⟨.none, none, (.func ⟨"__init__", "TooMany.__init__", dArgs (inC (top 7) 0), .stmts (dBody (inC (top 7) 0)), dScope (inC (top 7) 0), 0, [], .none, .none, .none, .none, none, .none, .none, 0⟩), ⟨[]⟩⟩
def o133 (P : Params) : Obj := ⟨.type "code", none, (.fields ⟨[.str "__init__" 336, .str "TooMany.__init__" 337, .str "/claim/cut.py" 338, .int 29 0, .int 2 0, .int 0 0, .int 0 0, .int 3 0, .ref 128, .bool true, .int 181 0, .ref 129, .none, .ref 130, .ref 131, .ref 132, .int 342 0, .int 29 0, .str "/claim/cut.py" 343]⟩), ⟨[]⟩⟩
def o134 (P : Params) : Obj := ⟨.type "function", none, (.func ⟨"__init__", "TooMany.__init__", dArgs (inC (top 7) 0), .stmts (dBody (inC (top 7) 0)), dScope (inC (top 7) 0), 3, [("__class__", 122)], .none, .none, .none, .str "rulewardens.errors" 194, none, .ref 133, .ref 127, 0⟩), ⟨[]⟩⟩
def o135 (P : Params) : Obj := ⟨.type "tuple", none, (.seq ⟨[.str "most" 345]⟩ 0), ⟨[]⟩⟩
def o136 (P : Params) : Obj := ⟨.type "dict", none, (.dict ⟨[⟨hs P "__module__", .str "__module__" 331, .str "rulewardens.errors" 194⟩, ⟨hs P "__firstlineno__", .str "__firstlineno__" 335, .int 27 334⟩, ⟨hs P "__init__", .str "__init__" 344, .ref 134⟩, ⟨hs P "__static_attributes__", .str "__static_attributes__" 346, .ref 135⟩, ⟨hs P "__doc__", .str "__doc__" 348, .none⟩]⟩ 3), ⟨[]⟩⟩
def o137 (P : Params) : Obj := ⟨.type "type", none, (.cls ⟨"TooMany", [.ref 31], [.ref 137, .ref 31, .type "Exception", .type "BaseException", .type "object"], 136, "TooMany", true, [], [], false, none, false⟩), ⟨[(some (.ref 119)), none, (some (.str "TooMany" 324)), (some (.str "TooMany" 332)), (some (.builtin "Exception.__new__")), (some (.bool true))]⟩⟩
def o138 (P : Params) : Obj := ⟨.type "super", none, (.fields ⟨[.ref 137, .ref 137, .ref 137]⟩), ⟨[]⟩⟩
def o139 (P : Params) : Obj := ⟨.type "builtin_function_or_method", none, (.fields ⟨[.builtin "object.__init_subclass__", .ref 137]⟩), ⟨[]⟩⟩
def o140 (P : Params) : Obj := ⟨.type "tuple", none, (.seq ⟨[.ref 31]⟩ 0), ⟨[]⟩⟩
def o141 (P : Params) : Obj := ⟨.type "builtin_function_or_method", none, (.fields ⟨[.builtin "type.__prepare__", .type "type"]⟩), ⟨[]⟩⟩
def o142 (P : Params) : Obj := ⟨.type "dict", none, (.dict ⟨[⟨hs P "__module__", .str "__module__" 358, .str "rulewardens.errors" 194⟩, ⟨hs P "__qualname__", .str "__qualname__" 360, .str "BadOnlooker" 359⟩, ⟨hs P "__firstlineno__", .str "__firstlineno__" 362, .int 32 361⟩, ⟨hs P "__init__", .str "__init__" 371, .ref 155⟩, ⟨hs P "__static_attributes__", .str "__static_attributes__" 373, .ref 156⟩, ⟨hs P "__classcell__", .str "__classcell__" 374, .ref 143⟩]⟩ 6), ⟨[]⟩⟩
def o143 (P : Params) : Obj := ⟨.type "cell", none, (.cell (some (.ref 158))), ⟨[]⟩⟩
def o144 (P : Params) : Obj := ⟨.type "tuple", none, (.seq ⟨[]⟩ 0), ⟨[]⟩⟩
def o145 (P : Params) : Obj := ⟨.none, none, (.fields ⟨[.int 34 0, .int 4 0, .ref 154]⟩), ⟨[]⟩⟩
def o146 (P : Params) : Obj := ⟨.type "code", none, (.fields ⟨[.str "BadOnlooker" 353, .str "BadOnlooker" 354, .str "/claim/cut.py" 355, .int 32 0, .int 0 0, .int 0 0, .int 0 0, .int 0 0, .ref 144, .bool false, .int 181 0, .ref 145, .none, .none, .none, .none, .int 356 0, .int 32 0, .str "/claim/cut.py" 357]⟩), ⟨[]⟩⟩
def o147 (P : Params) : Obj := ⟨.type "frame", none, .plain, ⟨[(some (.ref 146)), (some (.ref 3)), (some (.ref 142)), none, (some (.str "rulewardens.errors" 194)), none, (some (.ref 0))]⟩⟩
def o148 (P : Params) : Obj := ⟨.type "tuple", none, (.seq ⟨[.ref 143]⟩ 0), ⟨[]⟩⟩
def o149 (P : Params) : Obj := ⟨.type "tuple", none, (.seq ⟨[.str "__class__" 366]⟩ 0), ⟨[]⟩⟩
def o150 (P : Params) : Obj := ⟨.none, none, (.fields ⟨[]⟩), ⟨[]⟩⟩
def o151 (P : Params) : Obj := ⟨.type "tuple", none, (.seq ⟨[.str "self" 367, .str "part" 368]⟩ 0), ⟨[]⟩⟩
def o152 (P : Params) : Obj := ⟨.type "tuple", none, (.seq ⟨[]⟩ 0), ⟨[]⟩⟩
def o153 (P : Params) : Obj := ⟨.none, none, (.func ⟨"__init__", "BadOnlooker.__init__", dArgs (inC (top 8) 0), .stmts (dBody (inC (top 8) 0)), dScope (inC (top 8) 0), 0, [], .none, .none, .none, .none, none, .none, .none, 0⟩), ⟨[]⟩⟩
def o154 (P : Params) : Obj := ⟨.type "code", none, (.fields ⟨[.str "__init__" 363, .str "BadOnlooker.__init__" 364, .str "/claim/cut.py" 365, .int 34 0, .int 2 0, .int 0 0, .int 0 0, .int 3 0, .ref 149, .bool true, .int 181 0, .ref 150, .none, .ref 151, .ref 152, .ref 153, .int 369 0, .int 34 0, .str "/claim/cut.py" 370]⟩), ⟨[]⟩⟩
def o155 (P : Params) : Obj := ⟨.type "function", none, (.func ⟨"__init__", "BadOnlooker.__init__", dArgs (inC (top 8) 0), .stmts (dBody (inC (top 8) 0)), dScope (inC (top 8) 0), 3, [("__class__", 143)], .none, .none, .none, .str "rulewardens.errors" 194, none, .ref 154, .ref 148, 0⟩), ⟨[]⟩⟩
def o156 (P : Params) : Obj := ⟨.type "tuple", none, (.seq ⟨[.str "part" 372]⟩ 0), ⟨[]⟩⟩
def o157 (P : Params) : Obj := ⟨.type "dict", none, (.dict ⟨[⟨hs P "__module__", .str "__module__" 358, .str "rulewardens.errors" 194⟩, ⟨hs P "__firstlineno__", .str "__firstlineno__" 362, .int 32 361⟩, ⟨hs P "__init__", .str "__init__" 371, .ref 155⟩, ⟨hs P "__static_attributes__", .str "__static_attributes__" 373, .ref 156⟩, ⟨hs P "__doc__", .str "__doc__" 375, .none⟩]⟩ 3), ⟨[]⟩⟩
def o158 (P : Params) : Obj := ⟨.type "type", none, (.cls ⟨"BadOnlooker", [.ref 31], [.ref 158, .ref 31, .type "Exception", .type "BaseException", .type "object"], 157, "BadOnlooker", true, [], [], false, none, false⟩), ⟨[(some (.ref 140)), none, (some (.str "BadOnlooker" 351)), (some (.str "BadOnlooker" 359)), (some (.builtin "Exception.__new__")), (some (.bool true))]⟩⟩
def o159 (P : Params) : Obj := ⟨.type "super", none, (.fields ⟨[.ref 158, .ref 158, .ref 158]⟩), ⟨[]⟩⟩
def o160 (P : Params) : Obj := ⟨.type "builtin_function_or_method", none, (.fields ⟨[.builtin "object.__init_subclass__", .ref 158]⟩), ⟨[]⟩⟩
def o161 (P : Params) : Obj := ⟨.type "tuple", none, (.seq ⟨[.ref 31]⟩ 0), ⟨[]⟩⟩
def o162 (P : Params) : Obj := ⟨.type "builtin_function_or_method", none, (.fields ⟨[.builtin "type.__prepare__", .type "type"]⟩), ⟨[]⟩⟩
def o163 (P : Params) : Obj := ⟨.type "dict", none, (.dict ⟨[⟨hs P "__module__", .str "__module__" 385, .str "rulewardens.errors" 194⟩, ⟨hs P "__qualname__", .str "__qualname__" 387, .str "OtherFaces" 386⟩, ⟨hs P "__firstlineno__", .str "__firstlineno__" 389, .int 37 388⟩, ⟨hs P "__static_attributes__", .str "__static_attributes__" 390, .ref 168⟩]⟩ 4), ⟨[]⟩⟩
def o164 (P : Params) : Obj := ⟨.type "tuple", none, (.seq ⟨[]⟩ 0), ⟨[]⟩⟩
def o165 (P : Params) : Obj := ⟨.none, none, (.fields ⟨[]⟩), ⟨[]⟩⟩
def o166 (P : Params) : Obj := ⟨.type "code", none, (.fields ⟨[.str "OtherFaces" 380, .str "OtherFaces" 381, .str "/claim/cut.py" 382, .int 37 0, .int 0 0, .int 0 0, .int 0 0, .int 0 0, .ref 164, .bool false, .int 181 0, .ref 165, .none, .none, .none, .none, .int 383 0, .int 37 0, .str "/claim/cut.py" 384]⟩), ⟨[]⟩⟩
def o167 (P : Params) : Obj := ⟨.type "frame", none, .plain, ⟨[(some (.ref 166)), (some (.ref 3)), (some (.ref 163)), none, (some (.str "rulewardens.errors" 194)), none, (some (.ref 0))]⟩⟩
def o168 (P : Params) : Obj := ⟨.type "tuple", none, (.seq ⟨[]⟩ 0), ⟨[]⟩⟩
def o169 (P : Params) : Obj := ⟨.type "dict", none, (.dict ⟨[⟨hs P "__module__", .str "__module__" 385, .str "rulewardens.errors" 194⟩, ⟨hs P "__firstlineno__", .str "__firstlineno__" 389, .int 37 388⟩, ⟨hs P "__static_attributes__", .str "__static_attributes__" 390, .ref 168⟩, ⟨hs P "__doc__", .str "__doc__" 391, .none⟩]⟩ 2), ⟨[]⟩⟩
def o170 (P : Params) : Obj := ⟨.type "type", none, (.cls ⟨"OtherFaces", [.ref 31], [.ref 170, .ref 31, .type "Exception", .type "BaseException", .type "object"], 169, "OtherFaces", true, [], [], false, none, false⟩), ⟨[(some (.ref 161)), none, (some (.str "OtherFaces" 378)), (some (.str "OtherFaces" 386)), (some (.builtin "Exception.__new__")), (some (.bool true))]⟩⟩
def o171 (P : Params) : Obj := ⟨.type "super", none, (.fields ⟨[.ref 170, .ref 170, .ref 170]⟩), ⟨[]⟩⟩
def o172 (P : Params) : Obj := ⟨.type "builtin_function_or_method", none, (.fields ⟨[.builtin "object.__init_subclass__", .ref 170]⟩), ⟨[]⟩⟩
def o173 (P : Params) : Obj := ⟨.type "tuple", none, (.seq ⟨[.ref 31]⟩ 0), ⟨[]⟩⟩
def o174 (P : Params) : Obj := ⟨.type "builtin_function_or_method", none, (.fields ⟨[.builtin "type.__prepare__", .type "type"]⟩), ⟨[]⟩⟩
def o175 (P : Params) : Obj := ⟨.type "dict", none, (.dict ⟨[⟨hs P "__module__", .str "__module__" 401, .str "rulewardens.errors" 194⟩, ⟨hs P "__qualname__", .str "__qualname__" 403, .str "BadName" 402⟩, ⟨hs P "__firstlineno__", .str "__firstlineno__" 405, .int 39 404⟩, ⟨hs P "__init__", .str "__init__" 414, .ref 188⟩, ⟨hs P "__static_attributes__", .str "__static_attributes__" 416, .ref 189⟩, ⟨hs P "__classcell__", .str "__classcell__" 417, .ref 176⟩]⟩ 6), ⟨[]⟩⟩
def o176 (P : Params) : Obj := ⟨.type "cell", none, (.cell (some (.ref 191))), ⟨[]⟩⟩
def o177 (P : Params) : Obj := ⟨.type "tuple", none, (.seq ⟨[]⟩ 0), ⟨[]⟩⟩
def o178 (P : Params) : Obj := ⟨.none, none, (.fields ⟨[.int 41 0, .int 4 0, .ref 187]⟩), ⟨[]⟩⟩
def o179 (P : Params) : Obj := ⟨.type "code", none, (.fields ⟨[.str "BadName" 396, .str "BadName" 397, .str "/claim/cut.py" 398, .int 39 0, .int 0 0, .int 0 0, .int 0 0, .int 0 0, .ref 177, .bool false, .int 181 0, .ref 178, .none, .none, .none, .none, .int 399 0, .int 39 0, .str "/claim/cut.py" 400]⟩), ⟨[]⟩⟩
def o180 (P : Params) : Obj := ⟨.type "frame", none, .plain, ⟨[(some (.ref 179)), (some (.ref 3)), (some (.ref 175)), none, (some (.str "rulewardens.errors" 194)), none, (some (.ref 0))]⟩⟩
def o181 (P : Params) : Obj := ⟨.type "tuple", none, (.seq ⟨[.ref 176]⟩ 0), ⟨[]⟩⟩
def o182 (P : Params) : Obj := ⟨.type "tuple", none, (.seq ⟨[.str "__class__" 409]⟩ 0), ⟨[]⟩⟩
def o183 (P : Params) : Obj := ⟨.none, none, (.fields ⟨[]⟩), ⟨[]⟩⟩
def o184 (P : Params) : Obj := ⟨.type "tuple", none, (.seq ⟨[.str "self" 410, .str "name" 411]⟩ 0), ⟨[]⟩⟩
def o185 (P : Params) : Obj := ⟨.type "tuple", none, (.seq ⟨[]⟩ 0), ⟨[]⟩⟩
def o186 (P : Params) : Obj := ⟨.none, none, (.func ⟨"__init__", "BadName.__init__", dArgs (inC (top 10) 0), .stmts (dBody (inC (top 10) 0)), dScope (inC (top 10) 0), 0, [], .none, .none, .none, .none, none, .none, .none, 0⟩), ⟨[]⟩⟩
def o187 (P : Params) : Obj := ⟨.type "code", none, (.fields ⟨[.str "__init__" 406, .str "BadName.__init__" 407, .str "/claim/cut.py" 408, .int 41 0, .int 2 0, .int 0 0, .int 0 0, .int 3 0, .ref 182, .bool true, .int 181 0, .ref 183, .none, .ref 184, .ref 185, .ref 186, .int 412 0, .int 41 0, .str "/claim/cut.py" 413]⟩), ⟨[]⟩⟩
def o188 (P : Params) : Obj := ⟨.type "function", none, (.func ⟨"__init__", "BadName.__init__", dArgs (inC (top 10) 0), .stmts (dBody (inC (top 10) 0)), dScope (inC (top 10) 0), 3, [("__class__", 176)], .none, .none, .none, .str "rulewardens.errors" 194, none, .ref 187, .ref 181, 0⟩), ⟨[]⟩⟩
def o189 (P : Params) : Obj := ⟨.type "tuple", none, (.seq ⟨[.str "name" 415]⟩ 0), ⟨[]⟩⟩
def o190 (P : Params) : Obj := ⟨.type "dict", none, (.dict ⟨[⟨hs P "__module__", .str "__module__" 401, .str "rulewardens.errors" 194⟩, ⟨hs P "__firstlineno__", .str "__firstlineno__" 405, .int 39 404⟩, ⟨hs P "__init__", .str "__init__" 414, .ref 188⟩, ⟨hs P "__static_attributes__", .str "__static_attributes__" 416, .ref 189⟩, ⟨hs P "__doc__", .str "__doc__" 418, .none⟩]⟩ 3), ⟨[]⟩⟩
def o191 (P : Params) : Obj := ⟨.type "type", none, (.cls ⟨"BadName", [.ref 31], [.ref 191, .ref 31, .type "Exception", .type "BaseException", .type "object"], 190, "BadName", true, [], [], false, none, false⟩), ⟨[(some (.ref 173)), none, (some (.str "BadName" 394)), (some (.str "BadName" 402)), (some (.builtin "Exception.__new__")), (some (.bool true))]⟩⟩
def o192 (P : Params) : Obj := ⟨.type "super", none, (.fields ⟨[.ref 191, .ref 191, .ref 191]⟩), ⟨[]⟩⟩
def o193 (P : Params) : Obj := ⟨.type "builtin_function_or_method", none, (.fields ⟨[.builtin "object.__init_subclass__", .ref 191]⟩), ⟨[]⟩⟩
def o194 (P : Params) : Obj := ⟨.type "tuple", none, (.seq ⟨[.ref 31]⟩ 0), ⟨[]⟩⟩
def o195 (P : Params) : Obj := ⟨.type "builtin_function_or_method", none, (.fields ⟨[.builtin "type.__prepare__", .type "type"]⟩), ⟨[]⟩⟩
def o196 (P : Params) : Obj := ⟨.type "dict", none, (.dict ⟨[⟨hs P "__module__", .str "__module__" 428, .str "rulewardens.errors" 194⟩, ⟨hs P "__qualname__", .str "__qualname__" 430, .str "NameTaken" 429⟩, ⟨hs P "__firstlineno__", .str "__firstlineno__" 432, .int 44 431⟩, ⟨hs P "__init__", .str "__init__" 441, .ref 209⟩, ⟨hs P "__static_attributes__", .str "__static_attributes__" 443, .ref 210⟩, ⟨hs P "__classcell__", .str "__classcell__" 444, .ref 197⟩]⟩ 6), ⟨[]⟩⟩
def o197 (P : Params) : Obj := ⟨.type "cell", none, (.cell (some (.ref 212))), ⟨[]⟩⟩
def o198 (P : Params) : Obj := ⟨.type "tuple", none, (.seq ⟨[]⟩ 0), ⟨[]⟩⟩
def o199 (P : Params) : Obj := ⟨.none, none, (.fields ⟨[.int 46 0, .int 4 0, .ref 208]⟩), ⟨[]⟩⟩
def o200 (P : Params) : Obj := ⟨.type "code", none, (.fields ⟨[.str "NameTaken" 423, .str "NameTaken" 424, .str "/claim/cut.py" 425, .int 44 0, .int 0 0, .int 0 0, .int 0 0, .int 0 0, .ref 198, .bool false, .int 181 0, .ref 199, .none, .none, .none, .none, .int 426 0, .int 44 0, .str "/claim/cut.py" 427]⟩), ⟨[]⟩⟩
def o201 (P : Params) : Obj := ⟨.type "frame", none, .plain, ⟨[(some (.ref 200)), (some (.ref 3)), (some (.ref 196)), none, (some (.str "rulewardens.errors" 194)), none, (some (.ref 0))]⟩⟩
def o202 (P : Params) : Obj := ⟨.type "tuple", none, (.seq ⟨[.ref 197]⟩ 0), ⟨[]⟩⟩
def o203 (P : Params) : Obj := ⟨.type "tuple", none, (.seq ⟨[.str "__class__" 436]⟩ 0), ⟨[]⟩⟩
def o204 (P : Params) : Obj := ⟨.none, none, (.fields ⟨[]⟩), ⟨[]⟩⟩
def o205 (P : Params) : Obj := ⟨.type "tuple", none, (.seq ⟨[.str "self" 437, .str "name" 438]⟩ 0), ⟨[]⟩⟩
def o206 (P : Params) : Obj := ⟨.type "tuple", none, (.seq ⟨[]⟩ 0), ⟨[]⟩⟩
def o207 (P : Params) : Obj := ⟨.none, none, (.func ⟨"__init__", "NameTaken.__init__", dArgs (inC (top 11) 0), .stmts (dBody (inC (top 11) 0)), dScope (inC (top 11) 0), 0, [], .none, .none, .none, .none, none, .none, .none, 0⟩), ⟨[]⟩⟩
def o208 (P : Params) : Obj := ⟨.type "code", none, (.fields ⟨[.str "__init__" 433, .str "NameTaken.__init__" 434, .str "/claim/cut.py" 435, .int 46 0, .int 2 0, .int 0 0, .int 0 0, .int 3 0, .ref 203, .bool true, .int 181 0, .ref 204, .none, .ref 205, .ref 206, .ref 207, .int 439 0, .int 46 0, .str "/claim/cut.py" 440]⟩), ⟨[]⟩⟩
def o209 (P : Params) : Obj := ⟨.type "function", none, (.func ⟨"__init__", "NameTaken.__init__", dArgs (inC (top 11) 0), .stmts (dBody (inC (top 11) 0)), dScope (inC (top 11) 0), 3, [("__class__", 197)], .none, .none, .none, .str "rulewardens.errors" 194, none, .ref 208, .ref 202, 0⟩), ⟨[]⟩⟩
def o210 (P : Params) : Obj := ⟨.type "tuple", none, (.seq ⟨[.str "name" 442]⟩ 0), ⟨[]⟩⟩
def o211 (P : Params) : Obj := ⟨.type "dict", none, (.dict ⟨[⟨hs P "__module__", .str "__module__" 428, .str "rulewardens.errors" 194⟩, ⟨hs P "__firstlineno__", .str "__firstlineno__" 432, .int 44 431⟩, ⟨hs P "__init__", .str "__init__" 441, .ref 209⟩, ⟨hs P "__static_attributes__", .str "__static_attributes__" 443, .ref 210⟩, ⟨hs P "__doc__", .str "__doc__" 445, .none⟩]⟩ 3), ⟨[]⟩⟩
def o212 (P : Params) : Obj := ⟨.type "type", none, (.cls ⟨"NameTaken", [.ref 31], [.ref 212, .ref 31, .type "Exception", .type "BaseException", .type "object"], 211, "NameTaken", true, [], [], false, none, false⟩), ⟨[(some (.ref 194)), none, (some (.str "NameTaken" 421)), (some (.str "NameTaken" 429)), (some (.builtin "Exception.__new__")), (some (.bool true))]⟩⟩
def o213 (P : Params) : Obj := ⟨.type "super", none, (.fields ⟨[.ref 212, .ref 212, .ref 212]⟩), ⟨[]⟩⟩
def o214 (P : Params) : Obj := ⟨.type "builtin_function_or_method", none, (.fields ⟨[.builtin "object.__init_subclass__", .ref 212]⟩), ⟨[]⟩⟩
def o215 (P : Params) : Obj := ⟨.type "tuple", none, (.seq ⟨[.ref 31]⟩ 0), ⟨[]⟩⟩
def o216 (P : Params) : Obj := ⟨.type "builtin_function_or_method", none, (.fields ⟨[.builtin "type.__prepare__", .type "type"]⟩), ⟨[]⟩⟩
def o217 (P : Params) : Obj := ⟨.type "dict", none, (.dict ⟨[⟨hs P "__module__", .str "__module__" 455, .str "rulewardens.errors" 194⟩, ⟨hs P "__qualname__", .str "__qualname__" 457, .str "NoWard" 456⟩, ⟨hs P "__firstlineno__", .str "__firstlineno__" 459, .int 49 458⟩, ⟨hs P "__init__", .str "__init__" 468, .ref 230⟩, ⟨hs P "__static_attributes__", .str "__static_attributes__" 470, .ref 231⟩, ⟨hs P "__classcell__", .str "__classcell__" 471, .ref 218⟩]⟩ 6), ⟨[]⟩⟩
def o218 (P : Params) : Obj := ⟨.type "cell", none, (.cell (some (.ref 233))), ⟨[]⟩⟩
def o219 (P : Params) : Obj := ⟨.type "tuple", none, (.seq ⟨[]⟩ 0), ⟨[]⟩⟩
def o220 (P : Params) : Obj := ⟨.none, none, (.fields ⟨[.int 51 0, .int 4 0, .ref 229]⟩), ⟨[]⟩⟩
def o221 (P : Params) : Obj := ⟨.type "code", none, (.fields ⟨[.str "NoWard" 450, .str "NoWard" 451, .str "/claim/cut.py" 452, .int 49 0, .int 0 0, .int 0 0, .int 0 0, .int 0 0, .ref 219, .bool false, .int 181 0, .ref 220, .none, .none, .none, .none, .int 453 0, .int 49 0, .str "/claim/cut.py" 454]⟩), ⟨[]⟩⟩
def o222 (P : Params) : Obj := ⟨.type "frame", none, .plain, ⟨[(some (.ref 221)), (some (.ref 3)), (some (.ref 217)), none, (some (.str "rulewardens.errors" 194)), none, (some (.ref 0))]⟩⟩
def o223 (P : Params) : Obj := ⟨.type "tuple", none, (.seq ⟨[.ref 218]⟩ 0), ⟨[]⟩⟩
def o224 (P : Params) : Obj := ⟨.type "tuple", none, (.seq ⟨[.str "__class__" 463]⟩ 0), ⟨[]⟩⟩
def o225 (P : Params) : Obj := ⟨.none, none, (.fields ⟨[]⟩), ⟨[]⟩⟩
def o226 (P : Params) : Obj := ⟨.type "tuple", none, (.seq ⟨[.str "self" 464, .str "name" 465]⟩ 0), ⟨[]⟩⟩
def o227 (P : Params) : Obj := ⟨.type "tuple", none, (.seq ⟨[]⟩ 0), ⟨[]⟩⟩
def o228 (P : Params) : Obj := ⟨.none, none, (.func ⟨"__init__", "NoWard.__init__", dArgs (inC (top 12) 0), .stmts (dBody (inC (top 12) 0)), dScope (inC (top 12) 0), 0, [], .none, .none, .none, .none, none, .none, .none, 0⟩), ⟨[]⟩⟩
def o229 (P : Params) : Obj := ⟨.type "code", none, (.fields ⟨[.str "__init__" 460, .str "NoWard.__init__" 461, .str "/claim/cut.py" 462, .int 51 0, .int 2 0, .int 0 0, .int 0 0, .int 3 0, .ref 224, .bool true, .int 181 0, .ref 225, .none, .ref 226, .ref 227, .ref 228, .int 466 0, .int 51 0, .str "/claim/cut.py" 467]⟩), ⟨[]⟩⟩
def o230 (P : Params) : Obj := ⟨.type "function", none, (.func ⟨"__init__", "NoWard.__init__", dArgs (inC (top 12) 0), .stmts (dBody (inC (top 12) 0)), dScope (inC (top 12) 0), 3, [("__class__", 218)], .none, .none, .none, .str "rulewardens.errors" 194, none, .ref 229, .ref 223, 0⟩), ⟨[]⟩⟩
def o231 (P : Params) : Obj := ⟨.type "tuple", none, (.seq ⟨[.str "name" 469]⟩ 0), ⟨[]⟩⟩
def o232 (P : Params) : Obj := ⟨.type "dict", none, (.dict ⟨[⟨hs P "__module__", .str "__module__" 455, .str "rulewardens.errors" 194⟩, ⟨hs P "__firstlineno__", .str "__firstlineno__" 459, .int 49 458⟩, ⟨hs P "__init__", .str "__init__" 468, .ref 230⟩, ⟨hs P "__static_attributes__", .str "__static_attributes__" 470, .ref 231⟩, ⟨hs P "__doc__", .str "__doc__" 472, .none⟩]⟩ 3), ⟨[]⟩⟩
def o233 (P : Params) : Obj := ⟨.type "type", none, (.cls ⟨"NoWard", [.ref 31], [.ref 233, .ref 31, .type "Exception", .type "BaseException", .type "object"], 232, "NoWard", true, [], [], false, none, false⟩), ⟨[(some (.ref 215)), none, (some (.str "NoWard" 448)), (some (.str "NoWard" 456)), (some (.builtin "Exception.__new__")), (some (.bool true))]⟩⟩
def o234 (P : Params) : Obj := ⟨.type "super", none, (.fields ⟨[.ref 233, .ref 233, .ref 233]⟩), ⟨[]⟩⟩
def o235 (P : Params) : Obj := ⟨.type "builtin_function_or_method", none, (.fields ⟨[.builtin "object.__init_subclass__", .ref 233]⟩), ⟨[]⟩⟩
def o236 (P : Params) : Obj := ⟨.type "tuple", none, (.seq ⟨[.ref 31]⟩ 0), ⟨[]⟩⟩
def o237 (P : Params) : Obj := ⟨.type "builtin_function_or_method", none, (.fields ⟨[.builtin "type.__prepare__", .type "type"]⟩), ⟨[]⟩⟩
def o238 (P : Params) : Obj := ⟨.type "dict", none, (.dict ⟨[⟨hs P "__module__", .str "__module__" 482, .str "rulewardens.errors" 194⟩, ⟨hs P "__qualname__", .str "__qualname__" 484, .str "NotHeard" 483⟩, ⟨hs P "__firstlineno__", .str "__firstlineno__" 486, .int 54 485⟩, ⟨hs P "__init__", .str "__init__" 495, .ref 251⟩, ⟨hs P "__static_attributes__", .str "__static_attributes__" 497, .ref 252⟩, ⟨hs P "__classcell__", .str "__classcell__" 498, .ref 239⟩]⟩ 6), ⟨[]⟩⟩
def o239 (P : Params) : Obj := ⟨.type "cell", none, (.cell (some (.ref 254))), ⟨[]⟩⟩
def o240 (P : Params) : Obj := ⟨.type "tuple", none, (.seq ⟨[]⟩ 0), ⟨[]⟩⟩
def o241 (P : Params) : Obj := ⟨.none, none, (.fields ⟨[.int 56 0, .int 4 0, .ref 250]⟩), ⟨[]⟩⟩
def o242 (P : Params) : Obj := ⟨.type "code", none, (.fields ⟨[.str "NotHeard" 477, .str "NotHeard" 478, .str "/claim/cut.py" 479, .int 54 0, .int 0 0, .int 0 0, .int 0 0, .int 0 0, .ref 240, .bool false, .int 181 0, .ref 241, .none, .none, .none, .none, .int 480 0, .int 54 0, .str "/claim/cut.py" 481]⟩), ⟨[]⟩⟩
def o243 (P : Params) : Obj := ⟨.type "frame", none, .plain, ⟨[(some (.ref 242)), (some (.ref 3)), (some (.ref 238)), none, (some (.str "rulewardens.errors" 194)), none, (some (.ref 0))]⟩⟩
def o244 (P : Params) : Obj := ⟨.type "tuple", none, (.seq ⟨[.ref 239]⟩ 0), ⟨[]⟩⟩
def o245 (P : Params) : Obj := ⟨.type "tuple", none, (.seq ⟨[.str "__class__" 490]⟩ 0), ⟨[]⟩⟩
def o246 (P : Params) : Obj := ⟨.none, none, (.fields ⟨[]⟩), ⟨[]⟩⟩
def o247 (P : Params) : Obj := ⟨.type "tuple", none, (.seq ⟨[.str "self" 491, .str "heard" 492]⟩ 0), ⟨[]⟩⟩
def o248 (P : Params) : Obj := ⟨.type "tuple", none, (.seq ⟨[]⟩ 0), ⟨[]⟩⟩
def o249 (P : Params) : Obj := ⟨.none, none, (.func ⟨"__init__", "NotHeard.__init__", dArgs (inC (top 13) 0), .stmts (dBody (inC (top 13) 0)), dScope (inC (top 13) 0), 0, [], .none, .none, .none, .none, none, .none, .none, 0⟩), ⟨[]⟩⟩
def o250 (P : Params) : Obj := ⟨.type "code", none, (.fields ⟨[.str "__init__" 487, .str "NotHeard.__init__" 488, .str "/claim/cut.py" 489, .int 56 0, .int 2 0, .int 0 0, .int 0 0, .int 3 0, .ref 245, .bool true, .int 181 0, .ref 246, .none, .ref 247, .ref 248, .ref 249, .int 493 0, .int 56 0, .str "/claim/cut.py" 494]⟩), ⟨[]⟩⟩
def o251 (P : Params) : Obj := ⟨.type "function", none, (.func ⟨"__init__", "NotHeard.__init__", dArgs (inC (top 13) 0), .stmts (dBody (inC (top 13) 0)), dScope (inC (top 13) 0), 3, [("__class__", 239)], .none, .none, .none, .str "rulewardens.errors" 194, none, .ref 250, .ref 244, 0⟩), ⟨[]⟩⟩
def o252 (P : Params) : Obj := ⟨.type "tuple", none, (.seq ⟨[.str "heard" 496]⟩ 0), ⟨[]⟩⟩
def o253 (P : Params) : Obj := ⟨.type "dict", none, (.dict ⟨[⟨hs P "__module__", .str "__module__" 482, .str "rulewardens.errors" 194⟩, ⟨hs P "__firstlineno__", .str "__firstlineno__" 486, .int 54 485⟩, ⟨hs P "__init__", .str "__init__" 495, .ref 251⟩, ⟨hs P "__static_attributes__", .str "__static_attributes__" 497, .ref 252⟩, ⟨hs P "__doc__", .str "__doc__" 499, .none⟩]⟩ 3), ⟨[]⟩⟩
def o254 (P : Params) : Obj := ⟨.type "type", none, (.cls ⟨"NotHeard", [.ref 31], [.ref 254, .ref 31, .type "Exception", .type "BaseException", .type "object"], 253, "NotHeard", true, [], [], false, none, false⟩), ⟨[(some (.ref 236)), none, (some (.str "NotHeard" 475)), (some (.str "NotHeard" 483)), (some (.builtin "Exception.__new__")), (some (.bool true))]⟩⟩
def o255 (P : Params) : Obj := ⟨.type "super", none, (.fields ⟨[.ref 254, .ref 254, .ref 254]⟩), ⟨[]⟩⟩
def o256 (P : Params) : Obj := ⟨.type "builtin_function_or_method", none, (.fields ⟨[.builtin "object.__init_subclass__", .ref 254]⟩), ⟨[]⟩⟩
def o257 (P : Params) : Obj := ⟨.type "tuple", none, (.seq ⟨[.ref 31]⟩ 0), ⟨[]⟩⟩
def o258 (P : Params) : Obj := ⟨.type "builtin_function_or_method", none, (.fields ⟨[.builtin "type.__prepare__", .type "type"]⟩), ⟨[]⟩⟩
def o259 (P : Params) : Obj := ⟨.type "dict", none, (.dict ⟨[⟨hs P "__module__", .str "__module__" 509, .str "rulewardens.errors" 194⟩, ⟨hs P "__qualname__", .str "__qualname__" 511, .str "NotAlike" 510⟩, ⟨hs P "__firstlineno__", .str "__firstlineno__" 513, .int 59 512⟩, ⟨hs P "__init__", .str "__init__" 522, .ref 272⟩, ⟨hs P "__static_attributes__", .str "__static_attributes__" 524, .ref 273⟩, ⟨hs P "__classcell__", .str "__classcell__" 525, .ref 260⟩]⟩ 6), ⟨[]⟩⟩
def o260 (P : Params) : Obj := ⟨.type "cell", none, (.cell (some (.ref 275))), ⟨[]⟩⟩
def o261 (P : Params) : Obj := ⟨.type "tuple", none, (.seq ⟨[]⟩ 0), ⟨[]⟩⟩
def o262 (P : Params) : Obj := ⟨.none, none, (.fields ⟨[.int 61 0, .int 4 0, .ref 271]⟩), ⟨[]⟩⟩
def o263 (P : Params) : Obj := ⟨.type "code", none, (.fields ⟨[.str "NotAlike" 504, .str "NotAlike" 505, .str "/claim/cut.py" 506, .int 59 0, .int 0 0, .int 0 0, .int 0 0, .int 0 0, .ref 261, .bool false, .int 181 0, .ref 262, .none, .none, .none, .none, .int 507 0, .int 59 0, .str "/claim/cut.py" 508]⟩), ⟨[]⟩⟩
def o264 (P : Params) : Obj := ⟨.type "frame", none, .plain, ⟨[(some (.ref 263)), (some (.ref 3)), (some (.ref 259)), none, (some (.str "rulewardens.errors" 194)), none, (some (.ref 0))]⟩⟩
def o265 (P : Params) : Obj := ⟨.type "tuple", none, (.seq ⟨[.ref 260]⟩ 0), ⟨[]⟩⟩
def o266 (P : Params) : Obj := ⟨.type "tuple", none, (.seq ⟨[.str "__class__" 517]⟩ 0), ⟨[]⟩⟩
def o267 (P : Params) : Obj := ⟨.none, none, (.fields ⟨[]⟩), ⟨[]⟩⟩
def o268 (P : Params) : Obj := ⟨.type "tuple", none, (.seq ⟨[.str "self" 518, .str "log" 519]⟩ 0), ⟨[]⟩⟩
def o269 (P : Params) : Obj := ⟨.type "tuple", none, (.seq ⟨[]⟩ 0), ⟨[]⟩⟩
def o270 (P : Params) : Obj := ⟨.none, none, (.func ⟨"__init__", "NotAlike.__init__", dArgs (inC (top 14) 0), .stmts (dBody (inC (top 14) 0)), dScope (inC (top 14) 0), 0, [], .none, .none, .none, .none, none, .none, .none, 0⟩), ⟨[]⟩⟩
def o271 (P : Params) : Obj := ⟨.type "code", none, (.fields ⟨[.str "__init__" 514, .str "NotAlike.__init__" 515, .str "/claim/cut.py" 516, .int 61 0, .int 2 0, .int 0 0, .int 0 0, .int 3 0, .ref 266, .bool true, .int 181 0, .ref 267, .none, .ref 268, .ref 269, .ref 270, .int 520 0, .int 61 0, .str "/claim/cut.py" 521]⟩), ⟨[]⟩⟩
def o272 (P : Params) : Obj := ⟨.type "function", none, (.func ⟨"__init__", "NotAlike.__init__", dArgs (inC (top 14) 0), .stmts (dBody (inC (top 14) 0)), dScope (inC (top 14) 0), 3, [("__class__", 260)], .none, .none, .none, .str "rulewardens.errors" 194, none, .ref 271, .ref 265, 0⟩), ⟨[]⟩⟩
def o273 (P : Params) : Obj := ⟨.type "tuple", none, (.seq ⟨[.str "log" 523]⟩ 0), ⟨[]⟩⟩
def o274 (P : Params) : Obj := ⟨.type "dict", none, (.dict ⟨[⟨hs P "__module__", .str "__module__" 509, .str "rulewardens.errors" 194⟩, ⟨hs P "__firstlineno__", .str "__firstlineno__" 513, .int 59 512⟩, ⟨hs P "__init__", .str "__init__" 522, .ref 272⟩, ⟨hs P "__static_attributes__", .str "__static_attributes__" 524, .ref 273⟩, ⟨hs P "__doc__", .str "__doc__" 526, .none⟩]⟩ 3), ⟨[]⟩⟩
def o275 (P : Params) : Obj := ⟨.type "type", none, (.cls ⟨"NotAlike", [.ref 31], [.ref 275, .ref 31, .type "Exception", .type "BaseException", .type "object"], 274, "NotAlike", true, [], [], false, none, false⟩), ⟨[(some (.ref 257)), none, (some (.str "NotAlike" 502)), (some (.str "NotAlike" 510)), (some (.builtin "Exception.__new__")), (some (.bool true))]⟩⟩
def o276 (P : Params) : Obj := ⟨.type "super", none, (.fields ⟨[.ref 275, .ref 275, .ref 275]⟩), ⟨[]⟩⟩
def o277 (P : Params) : Obj := ⟨.type "builtin_function_or_method", none, (.fields ⟨[.builtin "object.__init_subclass__", .ref 275]⟩), ⟨[]⟩⟩
def o278 (P : Params) : Obj := ⟨.type "tuple", none, (.seq ⟨[.ref 31]⟩ 0), ⟨[]⟩⟩
def o279 (P : Params) : Obj := ⟨.type "builtin_function_or_method", none, (.fields ⟨[.builtin "type.__prepare__", .type "type"]⟩), ⟨[]⟩⟩
def o280 (P : Params) : Obj := ⟨.type "dict", none, (.dict ⟨[⟨hs P "__module__", .str "__module__" 536, .str "rulewardens.errors" 194⟩, ⟨hs P "__qualname__", .str "__qualname__" 538, .str "Harmful" 537⟩, ⟨hs P "__firstlineno__", .str "__firstlineno__" 540, .int 64 539⟩, ⟨hs P "__init__", .str "__init__" 549, .ref 293⟩, ⟨hs P "__static_attributes__", .str "__static_attributes__" 551, .ref 294⟩, ⟨hs P "__classcell__", .str "__classcell__" 552, .ref 281⟩]⟩ 6), ⟨[]⟩⟩
def o281 (P : Params) : Obj := ⟨.type "cell", none, (.cell (some (.ref 296))), ⟨[]⟩⟩
def o282 (P : Params) : Obj := ⟨.type "tuple", none, (.seq ⟨[]⟩ 0), ⟨[]⟩⟩
def o283 (P : Params) : Obj := ⟨.none, none, (.fields ⟨[.int 66 0, .int 4 0, .ref 292]⟩), ⟨[]⟩⟩
def o284 (P : Params) : Obj := ⟨.type "code", none, (.fields ⟨[.str "Harmful" 531, .str "Harmful" 532, .str "/claim/cut.py" 533, .int 64 0, .int 0 0, .int 0 0, .int 0 0, .int 0 0, .ref 282, .bool false, .int 181 0, .ref 283, .none, .none, .none, .none, .int 534 0, .int 64 0, .str "/claim/cut.py" 535]⟩), ⟨[]⟩⟩
def o285 (P : Params) : Obj := ⟨.type "frame", none, .plain, ⟨[(some (.ref 284)), (some (.ref 3)), (some (.ref 280)), none, (some (.str "rulewardens.errors" 194)), none, (some (.ref 0))]⟩⟩
def o286 (P : Params) : Obj := ⟨.type "tuple", none, (.seq ⟨[.ref 281]⟩ 0), ⟨[]⟩⟩
def o287 (P : Params) : Obj := ⟨.type "tuple", none, (.seq ⟨[.str "__class__" 544]⟩ 0), ⟨[]⟩⟩
def o288 (P : Params) : Obj := ⟨.none, none, (.fields ⟨[]⟩), ⟨[]⟩⟩
def o289 (P : Params) : Obj := ⟨.type "tuple", none, (.seq ⟨[.str "self" 545, .str "paper" 546]⟩ 0), ⟨[]⟩⟩
def o290 (P : Params) : Obj := ⟨.type "tuple", none, (.seq ⟨[]⟩ 0), ⟨[]⟩⟩
def o291 (P : Params) : Obj := ⟨.none, none, (.func ⟨"__init__", "Harmful.__init__", dArgs (inC (top 15) 0), .stmts (dBody (inC (top 15) 0)), dScope (inC (top 15) 0), 0, [], .none, .none, .none, .none, none, .none, .none, 0⟩), ⟨[]⟩⟩
def o292 (P : Params) : Obj := ⟨.type "code", none, (.fields ⟨[.str "__init__" 541, .str "Harmful.__init__" 542, .str "/claim/cut.py" 543, .int 66 0, .int 2 0, .int 0 0, .int 0 0, .int 3 0, .ref 287, .bool true, .int 181 0, .ref 288, .none, .ref 289, .ref 290, .ref 291, .int 547 0, .int 66 0, .str "/claim/cut.py" 548]⟩), ⟨[]⟩⟩
def o293 (P : Params) : Obj := ⟨.type "function", none, (.func ⟨"__init__", "Harmful.__init__", dArgs (inC (top 15) 0), .stmts (dBody (inC (top 15) 0)), dScope (inC (top 15) 0), 3, [("__class__", 281)], .none, .none, .none, .str "rulewardens.errors" 194, none, .ref 292, .ref 286, 0⟩), ⟨[]⟩⟩
def o294 (P : Params) : Obj := ⟨.type "tuple", none, (.seq ⟨[.str "paper" 550]⟩ 0), ⟨[]⟩⟩
def o295 (P : Params) : Obj := ⟨.type "dict", none, (.dict ⟨[⟨hs P "__module__", .str "__module__" 536, .str "rulewardens.errors" 194⟩, ⟨hs P "__firstlineno__", .str "__firstlineno__" 540, .int 64 539⟩, ⟨hs P "__init__", .str "__init__" 549, .ref 293⟩, ⟨hs P "__static_attributes__", .str "__static_attributes__" 551, .ref 294⟩, ⟨hs P "__doc__", .str "__doc__" 553, .none⟩]⟩ 3), ⟨[]⟩⟩
def o296 (P : Params) : Obj := ⟨.type "type", none, (.cls ⟨"Harmful", [.ref 31], [.ref 296, .ref 31, .type "Exception", .type "BaseException", .type "object"], 295, "Harmful", true, [], [], false, none, false⟩), ⟨[(some (.ref 278)), none, (some (.str "Harmful" 529)), (some (.str "Harmful" 537)), (some (.builtin "Exception.__new__")), (some (.bool true))]⟩⟩
def o297 (P : Params) : Obj := ⟨.type "super", none, (.fields ⟨[.ref 296, .ref 296, .ref 296]⟩), ⟨[]⟩⟩
def o298 (P : Params) : Obj := ⟨.type "builtin_function_or_method", none, (.fields ⟨[.builtin "object.__init_subclass__", .ref 296]⟩), ⟨[]⟩⟩
def o299 (P : Params) : Obj := ⟨.type "tuple", none, (.seq ⟨[.ref 31]⟩ 0), ⟨[]⟩⟩
def o300 (P : Params) : Obj := ⟨.type "builtin_function_or_method", none, (.fields ⟨[.builtin "type.__prepare__", .type "type"]⟩), ⟨[]⟩⟩
def o301 (P : Params) : Obj := ⟨.type "dict", none, (.dict ⟨[⟨hs P "__module__", .str "__module__" 563, .str "rulewardens.errors" 194⟩, ⟨hs P "__qualname__", .str "__qualname__" 565, .str "NothingToUndo" 564⟩, ⟨hs P "__firstlineno__", .str "__firstlineno__" 567, .int 69 566⟩, ⟨hs P "__static_attributes__", .str "__static_attributes__" 568, .ref 306⟩]⟩ 4), ⟨[]⟩⟩
def o302 (P : Params) : Obj := ⟨.type "tuple", none, (.seq ⟨[]⟩ 0), ⟨[]⟩⟩
def o303 (P : Params) : Obj := ⟨.none, none, (.fields ⟨[]⟩), ⟨[]⟩⟩
def o304 (P : Params) : Obj := ⟨.type "code", none, (.fields ⟨[.str "NothingToUndo" 558, .str "NothingToUndo" 559, .str "/claim/cut.py" 560, .int 69 0, .int 0 0, .int 0 0, .int 0 0, .int 0 0, .ref 302, .bool false, .int 181 0, .ref 303, .none, .none, .none, .none, .int 561 0, .int 69 0, .str "/claim/cut.py" 562]⟩), ⟨[]⟩⟩
def o305 (P : Params) : Obj := ⟨.type "frame", none, .plain, ⟨[(some (.ref 304)), (some (.ref 3)), (some (.ref 301)), none, (some (.str "rulewardens.errors" 194)), none, (some (.ref 0))]⟩⟩
def o306 (P : Params) : Obj := ⟨.type "tuple", none, (.seq ⟨[]⟩ 0), ⟨[]⟩⟩
def o307 (P : Params) : Obj := ⟨.type "dict", none, (.dict ⟨[⟨hs P "__module__", .str "__module__" 563, .str "rulewardens.errors" 194⟩, ⟨hs P "__firstlineno__", .str "__firstlineno__" 567, .int 69 566⟩, ⟨hs P "__static_attributes__", .str "__static_attributes__" 568, .ref 306⟩, ⟨hs P "__doc__", .str "__doc__" 569, .none⟩]⟩ 2), ⟨[]⟩⟩
def o308 (P : Params) : Obj := ⟨.type "type", none, (.cls ⟨"NothingToUndo", [.ref 31], [.ref 308, .ref 31, .type "Exception", .type "BaseException", .type "object"], 307, "NothingToUndo", true, [], [], false, none, false⟩), ⟨[(some (.ref 299)), none, (some (.str "NothingToUndo" 556)), (some (.str "NothingToUndo" 564)), (some (.builtin "Exception.__new__")), (some (.bool true))]⟩⟩
def o309 (P : Params) : Obj := ⟨.type "super", none, (.fields ⟨[.ref 308, .ref 308, .ref 308]⟩), ⟨[]⟩⟩
def o310 (P : Params) : Obj := ⟨.type "builtin_function_or_method", none, (.fields ⟨[.builtin "object.__init_subclass__", .ref 308]⟩), ⟨[]⟩⟩
def o311 (P : Params) : Obj := ⟨.type "tuple", none, (.seq ⟨[.ref 31]⟩ 0), ⟨[]⟩⟩
def o312 (P : Params) : Obj := ⟨.type "builtin_function_or_method", none, (.fields ⟨[.builtin "type.__prepare__", .type "type"]⟩), ⟨[]⟩⟩
def o313 (P : Params) : Obj := ⟨.type "dict", none, (.dict ⟨[⟨hs P "__module__", .str "__module__" 579, .str "rulewardens.errors" 194⟩, ⟨hs P "__qualname__", .str "__qualname__" 581, .str "NothingToRedo" 580⟩, ⟨hs P "__firstlineno__", .str "__firstlineno__" 583, .int 71 582⟩, ⟨hs P "__static_attributes__", .str "__static_attributes__" 584, .ref 318⟩]⟩ 4), ⟨[]⟩⟩
def o314 (P : Params) : Obj := ⟨.type "tuple", none, (.seq ⟨[]⟩ 0), ⟨[]⟩⟩
def o315 (P : Params) : Obj := ⟨.none, none, (.fields ⟨[]⟩), ⟨[]⟩⟩
def o316 (P : Params) : Obj := ⟨.type "code", none, (.fields ⟨[.str "NothingToRedo" 574, .str "NothingToRedo" 575, .str "/claim/cut.py" 576, .int 71 0, .int 0 0, .int 0 0, .int 0 0, .int 0 0, .ref 314, .bool false, .int 181 0, .ref 315, .none, .none, .none, .none, .int 577 0, .int 71 0, .str "/claim/cut.py" 578]⟩), ⟨[]⟩⟩
def o317 (P : Params) : Obj := ⟨.type "frame", none, .plain, ⟨[(some (.ref 316)), (some (.ref 3)), (some (.ref 313)), none, (some (.str "rulewardens.errors" 194)), none, (some (.ref 0))]⟩⟩
def o318 (P : Params) : Obj := ⟨.type "tuple", none, (.seq ⟨[]⟩ 0), ⟨[]⟩⟩
def o319 (P : Params) : Obj := ⟨.type "dict", none, (.dict ⟨[⟨hs P "__module__", .str "__module__" 579, .str "rulewardens.errors" 194⟩, ⟨hs P "__firstlineno__", .str "__firstlineno__" 583, .int 71 582⟩, ⟨hs P "__static_attributes__", .str "__static_attributes__" 584, .ref 318⟩, ⟨hs P "__doc__", .str "__doc__" 585, .none⟩]⟩ 2), ⟨[]⟩⟩
def o320 (P : Params) : Obj := ⟨.type "type", none, (.cls ⟨"NothingToRedo", [.ref 31], [.ref 320, .ref 31, .type "Exception", .type "BaseException", .type "object"], 319, "NothingToRedo", true, [], [], false, none, false⟩), ⟨[(some (.ref 311)), none, (some (.str "NothingToRedo" 572)), (some (.str "NothingToRedo" 580)), (some (.builtin "Exception.__new__")), (some (.bool true))]⟩⟩
def o321 (P : Params) : Obj := ⟨.type "super", none, (.fields ⟨[.ref 320, .ref 320, .ref 320]⟩), ⟨[]⟩⟩
def o322 (P : Params) : Obj := ⟨.type "builtin_function_or_method", none, (.fields ⟨[.builtin "object.__init_subclass__", .ref 320]⟩), ⟨[]⟩⟩
def o323 (P : Params) : Obj := ⟨.type "tuple", none, (.seq ⟨[.ref 31]⟩ 0), ⟨[]⟩⟩
def o324 (P : Params) : Obj := ⟨.type "builtin_function_or_method", none, (.fields ⟨[.builtin "type.__prepare__", .type "type"]⟩), ⟨[]⟩⟩
def o325 (P : Params) : Obj := ⟨.type "dict", none, (.dict ⟨[⟨hs P "__module__", .str "__module__" 595, .str "rulewardens.errors" 194⟩, ⟨hs P "__qualname__", .str "__qualname__" 597, .str "InvalidCommand" 596⟩, ⟨hs P "__firstlineno__", .str "__firstlineno__" 599, .int 73 598⟩, ⟨hs P "__static_attributes__", .str "__static_attributes__" 600, .ref 330⟩]⟩ 4), ⟨[]⟩⟩
def o326 (P : Params) : Obj := ⟨.type "tuple", none, (.seq ⟨[]⟩ 0), ⟨[]⟩⟩
def o327 (P : Params) : Obj := ⟨.none, none, (.fields ⟨[]⟩), ⟨[]⟩⟩
def o328 (P : Params) : Obj := ⟨.type "code", none, (.fields ⟨[.str "InvalidCommand" 590, .str "InvalidCommand" 591, .str "/claim/cut.py" 592, .int 73 0, .int 0 0, .int 0 0, .int 0 0, .int 0 0, .ref 326, .bool false, .int 181 0, .ref 327, .none, .none, .none, .none, .int 593 0, .int 73 0, .str "/claim/cut.py" 594]⟩), ⟨[]⟩⟩
def o329 (P : Params) : Obj := ⟨.type "frame", none, .plain, ⟨[(some (.ref 328)), (some (.ref 3)), (some (.ref 325)), none, (some (.str "rulewardens.errors" 194)), none, (some (.ref 0))]⟩⟩
def o330 (P : Params) : Obj := ⟨.type "tuple", none, (.seq ⟨[]⟩ 0), ⟨[]⟩⟩
def o331 (P : Params) : Obj := ⟨.type "dict", none, (.dict ⟨[⟨hs P "__module__", .str "__module__" 595, .str "rulewardens.errors" 194⟩, ⟨hs P "__firstlineno__", .str "__firstlineno__" 599, .int 73 598⟩, ⟨hs P "__static_attributes__", .str "__static_attributes__" 600, .ref 330⟩, ⟨hs P "__doc__", .str "__doc__" 601, .none⟩]⟩ 2), ⟨[]⟩⟩
def o332 (P : Params) : Obj := ⟨.type "type", none, (.cls ⟨"InvalidCommand", [.ref 31], [.ref 332, .ref 31, .type "Exception", .type "BaseException", .type "object"], 331, "InvalidCommand", true, [], [], false, none, false⟩), ⟨[(some (.ref 323)), none, (some (.str "InvalidCommand" 588)), (some (.str "InvalidCommand" 596)), (some (.builtin "Exception.__new__")), (some (.bool true))]⟩⟩
def o333 (P : Params) : Obj := ⟨.type "super", none, (.fields ⟨[.ref 332, .ref 332, .ref 332]⟩), ⟨[]⟩⟩
def o334 (P : Params) : Obj := ⟨.type "builtin_function_or_method", none, (.fields ⟨[.builtin "object.__init_subclass__", .ref 332]⟩), ⟨[]⟩⟩
def t20_31 (P : Params) : BT := (.node (o31 P) (.node (o63 P) (.node (o127 P) (.node (o255 P) .nil .nil) .nil) (.node (o191 P) (.node (o319 P) .nil .nil) .nil)) (.node (o95 P) (.node (o159 P) (.node (o287 P) .nil .nil) .nil) (.node (o223 P) .nil .nil)))
def t20_47 (P : Params) : BT := (.node (o47 P) (.node (o79 P) (.node (o143 P) (.node (o271 P) .nil .nil) .nil) (.node (o207 P) .nil .nil)) (.node (o111 P) (.node (o175 P) (.node (o303 P) .nil .nil) .nil) (.node (o239 P) .nil .nil)))
def t20_39 (P : Params) : BT := (.node (o39 P) (.node (o71 P) (.node (o135 P) (.node (o263 P) .nil .nil) .nil) (.node (o199 P) (.node (o327 P) .nil .nil) .nil)) (.node (o103 P) (.node (o167 P) (.node (o295 P) .nil .nil) .nil) (.node (o231 P) .nil .nil)))
def t20_55 (P : Params) : BT := (.node (o55 P) (.node (o87 P) (.node (o151 P) (.node (o279 P) .nil .nil) .nil) (.node (o215 P) .nil .nil)) (.node (o119 P) (.node (o183 P) (.node (o311 P) .nil .nil) .nil) (.node (o247 P) .nil .nil)))
def t20_35 (P : Params) : BT := (.node (o35 P) (.node (o67 P) (.node (o131 P) (.node (o259 P) .nil .nil) .nil) (.node (o195 P) (.node (o323 P) .nil .nil) .nil)) (.node (o99 P) (.node (o163 P) (.node (o291 P) .nil .nil) .nil) (.node (o227 P) .nil .nil)))
def t20_51 (P : Params) : BT := (.node (o51 P) (.node (o83 P) (.node (o147 P) (.node (o275 P) .nil .nil) .nil) (.node (o211 P) .nil .nil)) (.node (o115 P) (.node (o179 P) (.node (o307 P) .nil .nil) .nil) (.node (o243 P) .nil .nil)))
def t20_43 (P : Params) : BT := (.node (o43 P) (.node (o75 P) (.node (o139 P) (.node (o267 P) .nil .nil) .nil) (.node (o203 P) (.node (o331 P) .nil .nil) .nil)) (.node (o107 P) (.node (o171 P) (.node (o299 P) .nil .nil) .nil) (.node (o235 P) .nil .nil)))
def t20_59 (P : Params) : BT := (.node (o59 P) (.node (o91 P) (.node (o155 P) (.node (o283 P) .nil .nil) .nil) (.node (o219 P) .nil .nil)) (.node (o123 P) (.node (o187 P) (.node (o315 P) .nil .nil) .nil) (.node (o251 P) .nil .nil)))
def t20_33 (P : Params) : BT := (.node (o33 P) (.node (o65 P) (.node (o129 P) (.node (o257 P) .nil .nil) .nil) (.node (o193 P) (.node (o321 P) .nil .nil) .nil)) (.node (o97 P) (.node (o161 P) (.node (o289 P) .nil .nil) .nil) (.node (o225 P) .nil .nil)))
def t20_49 (P : Params) : BT := (.node (o49 P) (.node (o81 P) (.node (o145 P) (.node (o273 P) .nil .nil) .nil) (.node (o209 P) .nil .nil)) (.node (o113 P) (.node (o177 P) (.node (o305 P) .nil .nil) .nil) (.node (o241 P) .nil .nil)))
def t20_41 (P : Params) : BT := (.node (o41 P) (.node (o73 P) (.node (o137 P) (.node (o265 P) .nil .nil) .nil) (.node (o201 P) (.node (o329 P) .nil .nil) .nil)) (.node (o105 P) (.node (o169 P) (.node (o297 P) .nil .nil) .nil) (.node (o233 P) .nil .nil)))
def t20_57 (P : Params) : BT := (.node (o57 P) (.node (o89 P) (.node (o153 P) (.node (o281 P) .nil .nil) .nil) (.node (o217 P) .nil .nil)) (.node (o121 P) (.node (o185 P) (.node (o313 P) .nil .nil) .nil) (.node (o249 P) .nil .nil)))
def t20_37 (P : Params) : BT := (.node (o37 P) (.node (o69 P) (.node (o133 P) (.node (o261 P) .nil .nil) .nil) (.node (o197 P) (.node (o325 P) .nil .nil) .nil)) (.node (o101 P) (.node (o165 P) (.node (o293 P) .nil .nil) .nil) (.node (o229 P) .nil .nil)))
def t20_53 (P : Params) : BT := (.node (o53 P) (.node (o85 P) (.node (o149 P) (.node (o277 P) .nil .nil) .nil) (.node (o213 P) .nil .nil)) (.node (o117 P) (.node (o181 P) (.node (o309 P) .nil .nil) .nil) (.node (o245 P) .nil .nil)))
def t20_45 (P : Params) : BT := (.node (o45 P) (.node (o77 P) (.node (o141 P) (.node (o269 P) .nil .nil) .nil) (.node (o205 P) (.node (o333 P) .nil .nil) .nil)) (.node (o109 P) (.node (o173 P) (.node (o301 P) .nil .nil) .nil) (.node (o237 P) .nil .nil)))
def t20_61 (P : Params) : BT := (.node (o61 P) (.node (o93 P) (.node (o157 P) (.node (o285 P) .nil .nil) .nil) (.node (o221 P) .nil .nil)) (.node (o125 P) (.node (o189 P) (.node (o317 P) .nil .nil) .nil) (.node (o253 P) .nil .nil)))
def t20_32 (P : Params) : BT := (.node (o32 P) (.node (o64 P) (.node (o128 P) (.node (o256 P) .nil .nil) .nil) (.node (o192 P) (.node (o320 P) .nil .nil) .nil)) (.node (o96 P) (.node (o160 P) (.node (o288 P) .nil .nil) .nil) (.node (o224 P) .nil .nil)))
def t20_48 (P : Params) : BT := (.node (o48 P) (.node (o80 P) (.node (o144 P) (.node (o272 P) .nil .nil) .nil) (.node (o208 P) .nil .nil)) (.node (o112 P) (.node (o176 P) (.node (o304 P) .nil .nil) .nil) (.node (o240 P) .nil .nil)))
def t20_40 (P : Params) : BT := (.node (o40 P) (.node (o72 P) (.node (o136 P) (.node (o264 P) .nil .nil) .nil) (.node (o200 P) (.node (o328 P) .nil .nil) .nil)) (.node (o104 P) (.node (o168 P) (.node (o296 P) .nil .nil) .nil) (.node (o232 P) .nil .nil)))
def t20_56 (P : Params) : BT := (.node (o56 P) (.node (o88 P) (.node (o152 P) (.node (o280 P) .nil .nil) .nil) (.node (o216 P) .nil .nil)) (.node (o120 P) (.node (o184 P) (.node (o312 P) .nil .nil) .nil) (.node (o248 P) .nil .nil)))
def t20_36 (P : Params) : BT := (.node (o36 P) (.node (o68 P) (.node (o132 P) (.node (o260 P) .nil .nil) .nil) (.node (o196 P) (.node (o324 P) .nil .nil) .nil)) (.node (o100 P) (.node (o164 P) (.node (o292 P) .nil .nil) .nil) (.node (o228 P) .nil .nil)))
def t20_52 (P : Params) : BT := (.node (o52 P) (.node (o84 P) (.node (o148 P) (.node (o276 P) .nil .nil) .nil) (.node (o212 P) .nil .nil)) (.node (o116 P) (.node (o180 P) (.node (o308 P) .nil .nil) .nil) (.node (o244 P) .nil .nil)))
def t20_44 (P : Params) : BT := (.node (o44 P) (.node (o76 P) (.node (o140 P) (.node (o268 P) .nil .nil) .nil) (.node (o204 P) (.node (o332 P) .nil .nil) .nil)) (.node (o108 P) (.node (o172 P) (.node (o300 P) .nil .nil) .nil) (.node (o236 P) .nil .nil)))
def t20_60 (P : Params) : BT := (.node (o60 P) (.node (o92 P) (.node (o156 P) (.node (o284 P) .nil .nil) .nil) (.node (o220 P) .nil .nil)) (.node (o124 P) (.node (o188 P) (.node (o316 P) .nil .nil) .nil) (.node (o252 P) .nil .nil)))
def t20_34 (P : Params) : BT := (.node (o34 P) (.node (o66 P) (.node (o130 P) (.node (o258 P) .nil .nil) .nil) (.node (o194 P) (.node (o322 P) .nil .nil) .nil)) (.node (o98 P) (.node (o162 P) (.node (o290 P) .nil .nil) .nil) (.node (o226 P) .nil .nil)))
def t20_50 (P : Params) : BT := (.node (o50 P) (.node (o82 P) (.node (o146 P) (.node (o274 P) .nil .nil) .nil) (.node (o210 P) .nil .nil)) (.node (o114 P) (.node (o178 P) (.node (o306 P) .nil .nil) .nil) (.node (o242 P) .nil .nil)))
def t20_42 (P : Params) : BT := (.node (o42 P) (.node (o74 P) (.node (o138 P) (.node (o266 P) .nil .nil) .nil) (.node (o202 P) (.node (o330 P) .nil .nil) .nil)) (.node (o106 P) (.node (o170 P) (.node (o298 P) .nil .nil) .nil) (.node (o234 P) .nil .nil)))
def t20_58 (P : Params) : BT := (.node (o58 P) (.node (o90 P) (.node (o154 P) (.node (o282 P) .nil .nil) .nil) (.node (o218 P) .nil .nil)) (.node (o122 P) (.node (o186 P) (.node (o314 P) .nil .nil) .nil) (.node (o250 P) .nil .nil)))
def t20_38 (P : Params) : BT := (.node (o38 P) (.node (o70 P) (.node (o134 P) (.node (o262 P) .nil .nil) .nil) (.node (o198 P) (.node (o326 P) .nil .nil) .nil)) (.node (o102 P) (.node (o166 P) (.node (o294 P) .nil .nil) .nil) (.node (o230 P) .nil .nil)))
def t20_54 (P : Params) : BT := (.node (o54 P) (.node (o86 P) (.node (o150 P) (.node (o278 P) .nil .nil) .nil) (.node (o214 P) .nil .nil)) (.node (o118 P) (.node (o182 P) (.node (o310 P) .nil .nil) .nil) (.node (o246 P) .nil .nil)))
def t20_46 (P : Params) : BT := (.node (o46 P) (.node (o78 P) (.node (o142 P) (.node (o270 P) .nil .nil) .nil) (.node (o206 P) (.node (o334 P) .nil .nil) .nil)) (.node (o110 P) (.node (o174 P) (.node (o302 P) .nil .nil) .nil) (.node (o238 P) .nil .nil)))
def t20_62 (P : Params) : BT := (.node (o62 P) (.node (o94 P) (.node (o158 P) (.node (o286 P) .nil .nil) .nil) (.node (o222 P) .nil .nil)) (.node (o126 P) (.node (o190 P) (.node (o318 P) .nil .nil) .nil) (.node (o254 P) .nil .nil)))
def t20 (P : Params) : BT := (.node (o0 P) (.node (o1 P) (.node (o3_3 P) (.node (o7 P) (.node (o15 P) (t20_31 P) (t20_47 P)) (.node (o23 P) (t20_39 P) (t20_55 P))) (.node (o11 P) (.node (o19 P) (t20_35 P) (t20_51 P)) (.node (o27 P) (t20_43 P) (t20_59 P)))) (.node (o5 P) (.node (o9 P) (.node (o17 P) (t20_33 P) (t20_49 P)) (.node (o25 P) (t20_41 P) (t20_57 P))) (.node (o13 P) (.node (o21 P) (t20_37 P) (t20_53 P)) (.node (o29 P) (t20_45 P) (t20_61 P))))) (.node (o2_3 P) (.node (o4 P) (.node (o8 P) (.node (o16 P) (t20_32 P) (t20_48 P)) (.node (o24 P) (t20_40 P) (t20_56 P))) (.node (o12_3 P) (.node (o20 P) (t20_36 P) (t20_52 P)) (.node (o28 P) (t20_44 P) (t20_60 P)))) (.node (o6 P) (.node (o10 P) (.node (o18 P) (t20_34 P) (t20_50 P)) (.node (o26 P) (t20_42 P) (t20_58 P))) (.node (o14 P) (.node (o22 P) (t20_38 P) (t20_54 P)) (.node (o30 P) (t20_46 P) (t20_62 P))))))
def l20 : Life := ⟨[], [], [], 0, [], [], false, ⟨[]⟩, [], 0, false, false, false, 0, [2000, 10, 10], false, 0, true, [], [], 0, false⟩
def S20 (w : World) (os : OsState) : SharedT := ⟨t20 w.params, 335, l20, ⟨[]⟩, ⟨0, 0, 0, 0⟩, 606, os⟩
def o3_4 (P : Params) : Obj := ⟨.type "dict", none, (.dict ⟨[⟨hs P "__name__", .str "__name__" 165, .str "rulewardens.wards" 1297⟩, ⟨hs P "__doc__", .str "__doc__" 166, .none⟩, ⟨hs P "__package__", .str "__package__" 167, .none⟩, ⟨hs P "__loader__", .str "__loader__" 168, .builtin "__main__.__loader__#opaque"⟩, ⟨hs P "__spec__", .str "__spec__" 169, .none⟩, ⟨hs P "__annotations__", .str "__annotations__" 170, .ref 6⟩, ⟨hs P "__builtins__", .str "__builtins__" 171, .ref 4⟩, ⟨hs P "__file__", .str "__file__" 173, .str "/claim/cut.py" 172⟩, ⟨hs P "__cached__", .str "__cached__" 174, .none⟩, ⟨hs P "_wall", .str "_wall" 193, .ref 21⟩, ⟨hs P "WardError", .str "WardError" 215, .ref 31⟩, ⟨hs P "BadBook", .str "BadBook" 242, .ref 53⟩, ⟨hs P "BadDevice", .str "BadDevice" 269, .ref 74⟩, ⟨hs P "BadWard", .str "BadWard" 296, .ref 95⟩, ⟨hs P "BadText", .str "BadText" 323, .ref 116⟩, ⟨hs P "TooMany", .str "TooMany" 350, .ref 137⟩, ⟨hs P "BadOnlooker", .str "BadOnlooker" 377, .ref 158⟩, ⟨hs P "OtherFaces", .str "OtherFaces" 393, .ref 170⟩, ⟨hs P "BadName", .str "BadName" 420, .ref 191⟩, ⟨hs P "NameTaken", .str "NameTaken" 447, .ref 212⟩, ⟨hs P "NoWard", .str "NoWard" 474, .ref 233⟩, ⟨hs P "NotHeard", .str "NotHeard" 501, .ref 254⟩, ⟨hs P "NotAlike", .str "NotAlike" 528, .ref 275⟩, ⟨hs P "Harmful", .str "Harmful" 555, .ref 296⟩, ⟨hs P "NothingToUndo", .str "NothingToUndo" 571, .ref 308⟩, ⟨hs P "NothingToRedo", .str "NothingToRedo" 587, .ref 320⟩, ⟨hs P "InvalidCommand", .str "InvalidCommand" 603, .ref 332⟩, ⟨hs P "BLANK_commands", .str "BLANK_commands" 607, .str " " 606⟩, ⟨hs P "BREAK_commands", .str "BREAK_commands" 609, .str "\n" 608⟩, ⟨hs P "SEMICOLON", .str "SEMICOLON" 611, .str ";" 610⟩, ⟨hs P "TEXT_WORDS", .str "TEXT_WORDS" 615, .ref 335⟩, ⟨hs P "LEAST_TEXT_WORDS", .str "LEAST_TEXT_WORDS" 617, .int 3 616⟩, ⟨hs P "WORD_COUNTS", .str "WORD_COUNTS" 672, .ref 336⟩, ⟨hs P "command_words", .str "command_words" 680, .ref 344⟩, ⟨hs P "line_of_text", .str "line_of_text" 687, .ref 351⟩, ⟨hs P "BLANK_booktexts", .str "BLANK_booktexts" 691, .str " " 690⟩, ⟨hs P "BREAK_booktexts", .str "BREAK_booktexts" 693, .str "\n" 692⟩, ⟨hs P "COMMA", .str "COMMA" 695, .str "," 694⟩, ⟨hs P "NONE", .str "NONE" 697, .str "-" 696⟩, ⟨hs P "DIGITS", .str "DIGITS" 699, .str "0123456789" 698⟩, ⟨hs P "LETTERS_booktexts", .str "LETTERS_booktexts" 701, .str "abcdefghijklmnopqrstuvwxyz" 700⟩, ⟨hs P "MOST_DIGITS", .str "MOST_DIGITS" 703, .int 9 702⟩, ⟨hs P "ROOMS_WORD", .str "ROOMS_WORD" 705, .str "rooms" 704⟩, ⟨hs P "FIRST_WORD", .str "FIRST_WORD" 707, .str "first" 706⟩, ⟨hs P "MOVE_WORD", .str "MOVE_WORD" 709, .str "move" 708⟩, ⟨hs P "FACE_WORD", .str "FACE_WORD" 711, .str "face" 710⟩, ⟨hs P "STATE_WORD", .str "STATE_WORD" 713, .str "state" 712⟩, ⟨hs P "STEP_WORD", .str "STEP_WORD" 715, .str "step" 714⟩, ⟨hs P "YES", .str "YES" 717, .str "yes" 716⟩, ⟨hs P "NO", .str "NO" 719, .str "no" 718⟩, ⟨hs P "MOVE_WORDS", .str "MOVE_WORDS" 721, .int 7 720⟩, ⟨hs P "THREE_WORDS", .str "THREE_WORDS" 723, .int 3 722⟩, ⟨hs P "STEP_WORDS", .str "STEP_WORDS" 725, .int 4 724⟩, ⟨hs P "whole_in", .str "whole_in" 731, .ref 356⟩, ⟨hs P "wholes_in", .str "wholes_in" 737, .ref 361⟩, ⟨hs P "list_in", .str "list_in" 744, .ref 368⟩, ⟨hs P "heard_in", .str "heard_in" 750, .ref 373⟩, ⟨hs P "word_of_list", .str "word_of_list" 756, .ref 378⟩, ⟨hs P "word_of_heard", .str "word_of_heard" 763, .ref 385⟩, ⟨hs P "rooms_in", .str "rooms_in" 770, .ref 392⟩, ⟨hs P "first_in", .str "first_in" 777, .ref 399⟩, ⟨hs P "move_in", .str "move_in" 783, .ref 404⟩, ⟨hs P "face_in", .str "face_in" 789, .ref 409⟩, ⟨hs P "state_in", .str "state_in" 796, .ref 416⟩, ⟨hs P "step_in", .str "step_in" 804, .ref 423⟩, ⟨hs P "lines_in", .str "lines_in" 810, .ref 428⟩, ⟨hs P "lines_of_kind", .str "lines_of_kind" 820, .ref 435⟩, ⟨hs P "lines_of_book", .str "lines_of_book" 826, .ref 440⟩, ⟨hs P "lines_of_device", .str "lines_of_device" 832, .ref 445⟩, ⟨hs P "lines_of_faces", .str "lines_of_faces" 838, .ref 450⟩, ⟨hs P "AWAY", .str "AWAY" 843, .int (-1) 842⟩, ⟨hs P "MOST_ROOM", .str "MOST_ROOM" 845, .int 9 844⟩, ⟨hs P "MOST_FACE", .str "MOST_FACE" 847, .int 99 846⟩, ⟨hs P "MOVE_PARTS", .str "MOVE_PARTS" 849, .int 6 848⟩, ⟨hs P "is_integer", .str "is_integer" 856, .ref 457⟩, ⟨hs P "is_between", .str "is_between" 865, .ref 464⟩, ⟨hs P "are_ascending", .str "are_ascending" 871, .ref 469⟩, ⟨hs P "is_heard", .str "is_heard" 877, .ref 474⟩, ⟨hs P "are_rooms", .str "are_rooms" 883, .ref 479⟩, ⟨hs P "is_move", .str "is_move" 889, .ref 484⟩, ⟨hs P "check_moves", .str "check_moves" 899, .ref 491⟩, ⟨hs P "book_lines", .str "book_lines" 913, .ref 498⟩, ⟨hs P "Book", .str "Book" 1002, .ref 551⟩, ⟨hs P "has_somebody", .str "has_somebody" 1008, .ref 560⟩, ⟨hs P "rooms_seen", .str "rooms_seen" 1014, .ref 565⟩, ⟨hs P "is_move_open", .str "is_move_open" 1020, .ref 570⟩, ⟨hs P "open_moves", .str "open_moves" 1026, .ref 575⟩, ⟨hs P "moves_by_origin", .str "moves_by_origin" 1032, .ref 580⟩, ⟨hs P "has_open_move", .str "has_open_move" 1038, .ref 585⟩, ⟨hs P "some_of", .str "some_of" 1044, .ref 590⟩, ⟨hs P "choices", .str "choices" 1050, .ref 595⟩, ⟨hs P "heard_of", .str "heard_of" 1056, .ref 600⟩, ⟨hs P "where_behind", .str "where_behind" 1062, .ref 605⟩, ⟨hs P "outcomes", .str "outcomes" 1071, .ref 612⟩, ⟨hs P "outcomes_found", .str "outcomes_found" 1077, .ref 617⟩, ⟨hs P "PAIR", .str "PAIR" 1081, .int 2 1080⟩, ⟨hs P "STEP_PARTS", .str "STEP_PARTS" 1083, .int 3 1082⟩, ⟨hs P "SILENCE_devices", .str "SILENCE_devices" 1085, .str "" 1084⟩, ⟨hs P "are_faces", .str "are_faces" 1091, .ref 622⟩, ⟨hs P "is_face", .str "is_face" 1097, .ref 627⟩, ⟨hs P "are_shown", .str "are_shown" 1103, .ref 632⟩, ⟨hs P "is_step", .str "is_step" 1114, .ref 639⟩, ⟨hs P "is_later", .str "is_later" 1122, .ref 646⟩, ⟨hs P "are_steps", .str "are_steps" 1128, .ref 651⟩, ⟨hs P "are_others", .str "are_others" 1134, .ref 656⟩, ⟨hs P "device_lines", .str "device_lines" 1140, .ref 661⟩, ⟨hs P "Device", .str "Device" 1225, .ref 714⟩, ⟨hs P "silent_ticks", .str "silent_ticks" 1236, .ref 725⟩, ⟨hs P "first_lot", .str "first_lot" 1245, .ref 732⟩, ⟨hs P "answers", .str "answers" 1251, .ref 737⟩, ⟨hs P "lot_after", .str "lot_after" 1263, .ref 744⟩, ⟨hs P "lots_along", .str "lots_along" 1274, .ref 751⟩, ⟨hs P "lot_behind", .str "lot_behind" 1282, .ref 758⟩, ⟨hs P "cut_heard", .str "cut_heard" 1290, .ref 763⟩, ⟨hs P "answers_by_ears", .str "answers_by_ears" 1296, .ref 768⟩, ⟨hs P "SHUT", .str "SHUT" 1300, .str "shut" 1299⟩, ⟨hs P "BELL", .str "BELL" 1302, .str "bell" 1301⟩, ⟨hs P "OPEN", .str "OPEN" 1304, .str "open" 1303⟩, ⟨hs P "KEPT_wards", .str "KEPT_wards" 1306, .str "kept" 1305⟩, ⟨hs P "HARM", .str "HARM" 1308, .str "harm" 1307⟩, ⟨hs P "faces_told", .str "faces_told" 1320, .ref 775⟩, ⟨hs P "Ward", .str "Ward" 1396, .ref 814⟩]⟩ 122), ⟨[]⟩⟩
def o12_4 (P : Params) : Obj := ⟨.none, none, (.fields ⟨[.int 1 0, .int 0 0, .ref 20, .int 5 0, .int 0 0, .ref 27, .int 7 0, .int 0 0, .ref 41, .int 12 0, .int 0 0, .ref 62, .int 17 0, .int 0 0, .ref 83, .int 22 0, .int 0 0, .ref 104, .int 27 0, .int 0 0, .ref 125, .int 32 0, .int 0 0, .ref 146, .int 37 0, .int 0 0, .ref 166, .int 39 0, .int 0 0, .ref 179, .int 44 0, .int 0 0, .ref 200, .int 49 0, .int 0 0, .ref 221, .int 54 0, .int 0 0, .ref 242, .int 59 0, .int 0 0, .ref 263, .int 64 0, .int 0 0, .ref 284, .int 69 0, .int 0 0, .ref 304, .int 71 0, .int 0 0, .ref 316, .int 73 0, .int 0 0, .ref 328, .int 82 0, .int 0 0, .ref 343, .int 93 0, .int 0 0, .ref 350, .int 114 0, .int 0 0, .ref 355, .int 121 0, .int 0 0, .ref 360, .int 124 0, .int 0 0, .ref 367, .int 126 0, .int 0 0, .ref 372, .int 131 0, .int 0 0, .ref 377, .int 133 0, .int 0 0, .ref 384, .int 135 0, .int 0 0, .ref 391, .int 137 0, .int 0 0, .ref 398, .int 139 0, .int 0 0, .ref 403, .int 144 0, .int 0 0, .ref 408, .int 148 0, .int 0 0, .ref 415, .int 150 0, .int 0 0, .ref 422, .int 155 0, .int 0 0, .ref 427, .int 159 0, .int 0 0, .ref 434, .int 164 0, .int 0 0, .ref 439, .int 171 0, .int 0 0, .ref 444, .int 175 0, .int 0 0, .ref 449, .int 182 0, .int 0 0, .ref 456, .int 184 0, .int 0 0, .ref 463, .int 186 0, .int 0 0, .ref 468, .int 190 0, .int 0 0, .ref 473, .int 194 0, .int 0 0, .ref 478, .int 196 0, .int 0 0, .ref 483, .int 207 0, .int 0 0, .ref 490, .int 213 0, .int 0 0, .ref 497, .int 228 0, .int 0 0, .ref 504, .int 264 0, .int 0 0, .ref 559, .int 266 0, .int 0 0, .ref 564, .int 268 0, .int 0 0, .ref 569, .int 273 0, .int 0 0, .ref 574, .int 279 0, .int 0 0, .ref 579, .int 283 0, .int 0 0, .ref 584, .int 285 0, .int 0 0, .ref 589, .int 290 0, .int 0 0, .ref 594, .int 295 0, .int 0 0, .ref 599, .int 297 0, .int 0 0, .ref 604, .int 300 0, .int 0 0, .ref 611, .int 304 0, .int 0 0, .ref 616, .int 316 0, .int 0 0, .ref 621, .int 320 0, .int 0 0, .ref 626, .int 322 0, .int 0 0, .ref 631, .int 324 0, .int 0 0, .ref 638, .int 329 0, .int 0 0, .ref 645, .int 331 0, .int 0 0, .ref 650, .int 335 0, .int 0 0, .ref 655, .int 337 0, .int 0 0, .ref 660, .int 356 0, .int 0 0, .ref 667, .int 388 0, .int 0 0, .ref 724, .int 396 0, .int 0 0, .ref 731, .int 398 0, .int 0 0, .ref 736, .int 404 0, .int 0 0, .ref 743, .int 409 0, .int 0 0, .ref 750, .int 415 0, .int 0 0, .ref 757, .int 418 0, .int 0 0, .ref 762, .int 420 0, .int 0 0, .ref 767, .int 431 0, .int 0 0, .ref 774, .int 442 0, .int 0 0, .ref 781]⟩), ⟨[]⟩⟩
def o335 (P : Params) : Obj := ⟨.type "tuple", none, (.seq ⟨[.str "open" 612, .str "renew" 613, .str "replace" 614]⟩ 0), ⟨[]⟩⟩
def o336 (P : Params) : Obj := ⟨.type "dict", none, (.dict ⟨[⟨hs P "wards", .str "wards" 618, .int 1 619⟩, ⟨hs P "undo", .str "undo" 621, .int 1 622⟩, ⟨hs P "redo", .str "redo" 624, .int 1 625⟩, ⟨hs P "close", .str "close" 627, .int 2 628⟩, ⟨hs P "device", .str "device" 630, .int 2 631⟩, ⟨hs P "ward", .str "ward" 633, .int 2 634⟩, ⟨hs P "face", .str "face" 636, .int 2 637⟩, ⟨hs P "log", .str "log" 639, .int 2 640⟩, ⟨hs P "lot", .str "lot" 642, .int 2 643⟩, ⟨hs P "people", .str "people" 645, .int 2 646⟩, ⟨hs P "hear", .str "hear" 648, .int 3 649⟩, ⟨hs P "keeps", .str "keeps" 651, .int 3 652⟩, ⟨hs P "can", .str "can" 654, .int 3 655⟩, ⟨hs P "sure", .str "sure" 657, .int 3 658⟩, ⟨hs P "gap", .str "gap" 660, .int 3 661⟩, ⟨hs P "ears", .str "ears" 663, .int 3 664⟩, ⟨hs P "bars", .str "bars" 666, .int 3 667⟩, ⟨hs P "learn", .str "learn" 669, .int 4 670⟩]⟩ 18), ⟨[]⟩⟩
def o337 (P : Params) : Obj := ⟨.type "dict", none, (.dict ⟨[⟨hs P "learn", .str "learn" 669, .int 4 670⟩]⟩ 1), ⟨[]⟩⟩
def o338 (P : Params) : Obj := ⟨.type "tuple", none, (.seq ⟨[]⟩ 0), ⟨[]⟩⟩
def o339 (P : Params) : Obj := ⟨.none, none, (.fields ⟨[]⟩), ⟨[]⟩⟩
def o340 (P : Params) : Obj := ⟨.type "tuple", none, (.seq ⟨[.str "thing" 676, .str "words" 677]⟩ 0), ⟨[]⟩⟩
def o341 (P : Params) : Obj := ⟨.type "tuple", none, (.seq ⟨[]⟩ 0), ⟨[]⟩⟩
def o342 (P : Params) : Obj := ⟨.none, none, (.func ⟨"command_words", "command_words", dArgs (top 26), .stmts (dBody (top 26)), dScope (top 26), 0, [], .none, .none, .none, .none, none, .none, .none, 0⟩), ⟨[]⟩⟩
def o343 (P : Params) : Obj := ⟨.type "code", none, (.fields ⟨[.str "command_words" 673, .str "command_words" 674, .str "/claim/cut.py" 675, .int 82 0, .int 1 0, .int 0 0, .int 0 0, .int 3 0, .ref 338, .bool true, .int 181 0, .ref 339, .none, .ref 340, .ref 341, .ref 342, .int 678 0, .int 82 0, .str "/claim/cut.py" 679]⟩), ⟨[]⟩⟩
def o344 (P : Params) : Obj := ⟨.type "function", none, (.func ⟨"command_words", "command_words", dArgs (top 26), .stmts (dBody (top 26)), dScope (top 26), 3, [], .none, .none, .none, .str "rulewardens.commands" 604, none, .ref 343, .none, 0⟩), ⟨[]⟩⟩
def o345 (P : Params) : Obj := ⟨.type "tuple", none, (.seq ⟨[]⟩ 0), ⟨[]⟩⟩
def o346 (P : Params) : Obj := ⟨.none, none, (.fields ⟨[]⟩), ⟨[]⟩⟩
def o347 (P : Params) : Obj := ⟨.type "tuple", none, (.seq ⟨[.str "text" 684]⟩ 0), ⟨[]⟩⟩
def o348 (P : Params) : Obj := ⟨.type "tuple", none, (.seq ⟨[]⟩ 0), ⟨[]⟩⟩
def o349 (P : Params) : Obj := ⟨.none, none, (.func ⟨"line_of_text", "line_of_text", dArgs (top 27), .stmts (dBody (top 27)), dScope (top 27), 0, [], .none, .none, .none, .none, none, .none, .none, 0⟩), ⟨[]⟩⟩
def o350 (P : Params) : Obj := ⟨.type "code", none, (.fields ⟨[.str "line_of_text" 681, .str "line_of_text" 682, .str "/claim/cut.py" 683, .int 93 0, .int 1 0, .int 0 0, .int 0 0, .int 3 0, .ref 345, .bool true, .int 181 0, .ref 346, .none, .ref 347, .ref 348, .ref 349, .int 685 0, .int 93 0, .str "/claim/cut.py" 686]⟩), ⟨[]⟩⟩
def o351 (P : Params) : Obj := ⟨.type "function", none, (.func ⟨"line_of_text", "line_of_text", dArgs (top 27), .stmts (dBody (top 27)), dScope (top 27), 3, [], .none, .none, .none, .str "rulewardens.commands" 604, none, .ref 350, .none, 0⟩), ⟨[]⟩⟩
def o352 (P : Params) : Obj := ⟨.type "tuple", none, (.seq ⟨[]⟩ 0), ⟨[]⟩⟩
def o353 (P : Params) : Obj := ⟨.none, none, (.fields ⟨[]⟩), ⟨[]⟩⟩
def o354 (P : Params) : Obj := ⟨.none, none, (.func ⟨"whole_in", "whole_in", dArgs (top 47), .stmts (dBody (top 47)), dScope (top 47), 0, [], .none, .none, .none, .none, none, .none, .none, 0⟩), ⟨[]⟩⟩
def o355 (P : Params) : Obj := ⟨.type "code", none, (.fields ⟨[.str "whole_in" 726, .str "whole_in" 727, .str "/claim/cut.py" 728, .int 114 0, .int 1 0, .int 0 0, .int 0 0, .int 3 0, .ref 352, .bool true, .int 181 0, .ref 353, .none, .none, .none, .ref 354, .int 729 0, .int 114 0, .str "/claim/cut.py" 730]⟩), ⟨[]⟩⟩
def o356 (P : Params) : Obj := ⟨.type "function", none, (.func ⟨"whole_in", "whole_in", dArgs (top 47), .stmts (dBody (top 47)), dScope (top 47), 3, [], .none, .none, .none, .str "rulewardens.booktexts" 688, none, .ref 355, .none, 0⟩), ⟨[]⟩⟩
def o357 (P : Params) : Obj := ⟨.type "tuple", none, (.seq ⟨[]⟩ 0), ⟨[]⟩⟩
def o358 (P : Params) : Obj := ⟨.none, none, (.fields ⟨[]⟩), ⟨[]⟩⟩
def o359 (P : Params) : Obj := ⟨.none, none, (.func ⟨"wholes_in", "wholes_in", dArgs (top 48), .stmts (dBody (top 48)), dScope (top 48), 0, [], .none, .none, .none, .none, none, .none, .none, 0⟩), ⟨[]⟩⟩
def o360 (P : Params) : Obj := ⟨.type "code", none, (.fields ⟨[.str "wholes_in" 732, .str "wholes_in" 733, .str "/claim/cut.py" 734, .int 121 0, .int 1 0, .int 0 0, .int 0 0, .int 3 0, .ref 357, .bool true, .int 181 0, .ref 358, .none, .none, .none, .ref 359, .int 735 0, .int 121 0, .str "/claim/cut.py" 736]⟩), ⟨[]⟩⟩
def o361 (P : Params) : Obj := ⟨.type "function", none, (.func ⟨"wholes_in", "wholes_in", dArgs (top 48), .stmts (dBody (top 48)), dScope (top 48), 3, [], .none, .none, .none, .str "rulewardens.booktexts" 688, none, .ref 360, .none, 0⟩), ⟨[]⟩⟩
def o362 (P : Params) : Obj := ⟨.type "tuple", none, (.seq ⟨[]⟩ 0), ⟨[]⟩⟩
def o363 (P : Params) : Obj := ⟨.none, none, (.fields ⟨[]⟩), ⟨[]⟩⟩
def o364 (P : Params) : Obj := ⟨.type "tuple", none, (.seq ⟨[.str "word" 741]⟩ 0), ⟨[]⟩⟩
def o365 (P : Params) : Obj := ⟨.type "tuple", none, (.seq ⟨[]⟩ 0), ⟨[]⟩⟩
def o366 (P : Params) : Obj := ⟨.none, none, (.func ⟨"list_in", "list_in", dArgs (top 49), .stmts (dBody (top 49)), dScope (top 49), 0, [], .none, .none, .none, .none, none, .none, .none, 0⟩), ⟨[]⟩⟩
def o367 (P : Params) : Obj := ⟨.type "code", none, (.fields ⟨[.str "list_in" 738, .str "list_in" 739, .str "/claim/cut.py" 740, .int 124 0, .int 1 0, .int 0 0, .int 0 0, .int 3 0, .ref 362, .bool true, .int 181 0, .ref 363, .none, .ref 364, .ref 365, .ref 366, .int 742 0, .int 124 0, .str "/claim/cut.py" 743]⟩), ⟨[]⟩⟩
def o368 (P : Params) : Obj := ⟨.type "function", none, (.func ⟨"list_in", "list_in", dArgs (top 49), .stmts (dBody (top 49)), dScope (top 49), 3, [], .none, .none, .none, .str "rulewardens.booktexts" 688, none, .ref 367, .none, 0⟩), ⟨[]⟩⟩
def o369 (P : Params) : Obj := ⟨.type "tuple", none, (.seq ⟨[]⟩ 0), ⟨[]⟩⟩
def o370 (P : Params) : Obj := ⟨.none, none, (.fields ⟨[]⟩), ⟨[]⟩⟩
def o371 (P : Params) : Obj := ⟨.none, none, (.func ⟨"heard_in", "heard_in", dArgs (top 50), .stmts (dBody (top 50)), dScope (top 50), 0, [], .none, .none, .none, .none, none, .none, .none, 0⟩), ⟨[]⟩⟩
def o372 (P : Params) : Obj := ⟨.type "code", none, (.fields ⟨[.str "heard_in" 745, .str "heard_in" 746, .str "/claim/cut.py" 747, .int 126 0, .int 1 0, .int 0 0, .int 0 0, .int 3 0, .ref 369, .bool true, .int 181 0, .ref 370, .none, .none, .none, .ref 371, .int 748 0, .int 126 0, .str "/claim/cut.py" 749]⟩), ⟨[]⟩⟩
def o373 (P : Params) : Obj := ⟨.type "function", none, (.func ⟨"heard_in", "heard_in", dArgs (top 50), .stmts (dBody (top 50)), dScope (top 50), 3, [], .none, .none, .none, .str "rulewardens.booktexts" 688, none, .ref 372, .none, 0⟩), ⟨[]⟩⟩
def o374 (P : Params) : Obj := ⟨.type "tuple", none, (.seq ⟨[]⟩ 0), ⟨[]⟩⟩
def o375 (P : Params) : Obj := ⟨.none, none, (.fields ⟨[]⟩), ⟨[]⟩⟩
def o376 (P : Params) : Obj := ⟨.none, none, (.func ⟨"word_of_list", "word_of_list", dArgs (top 51), .stmts (dBody (top 51)), dScope (top 51), 0, [], .none, .none, .none, .none, none, .none, .none, 0⟩), ⟨[]⟩⟩
def o377 (P : Params) : Obj := ⟨.type "code", none, (.fields ⟨[.str "word_of_list" 751, .str "word_of_list" 752, .str "/claim/cut.py" 753, .int 131 0, .int 1 0, .int 0 0, .int 0 0, .int 3 0, .ref 374, .bool true, .int 181 0, .ref 375, .none, .none, .none, .ref 376, .int 754 0, .int 131 0, .str "/claim/cut.py" 755]⟩), ⟨[]⟩⟩
def o378 (P : Params) : Obj := ⟨.type "function", none, (.func ⟨"word_of_list", "word_of_list", dArgs (top 51), .stmts (dBody (top 51)), dScope (top 51), 3, [], .none, .none, .none, .str "rulewardens.booktexts" 688, none, .ref 377, .none, 0⟩), ⟨[]⟩⟩
def o379 (P : Params) : Obj := ⟨.type "tuple", none, (.seq ⟨[]⟩ 0), ⟨[]⟩⟩
def o380 (P : Params) : Obj := ⟨.none, none, (.fields ⟨[]⟩), ⟨[]⟩⟩
def o381 (P : Params) : Obj := ⟨.type "tuple", none, (.seq ⟨[.str "heard" 760]⟩ 0), ⟨[]⟩⟩
def o382 (P : Params) : Obj := ⟨.type "tuple", none, (.seq ⟨[]⟩ 0), ⟨[]⟩⟩
def o383 (P : Params) : Obj := ⟨.none, none, (.func ⟨"word_of_heard", "word_of_heard", dArgs (top 52), .stmts (dBody (top 52)), dScope (top 52), 0, [], .none, .none, .none, .none, none, .none, .none, 0⟩), ⟨[]⟩⟩
def o384 (P : Params) : Obj := ⟨.type "code", none, (.fields ⟨[.str "word_of_heard" 757, .str "word_of_heard" 758, .str "/claim/cut.py" 759, .int 133 0, .int 1 0, .int 0 0, .int 0 0, .int 3 0, .ref 379, .bool true, .int 181 0, .ref 380, .none, .ref 381, .ref 382, .ref 383, .int 761 0, .int 133 0, .str "/claim/cut.py" 762]⟩), ⟨[]⟩⟩
def o385 (P : Params) : Obj := ⟨.type "function", none, (.func ⟨"word_of_heard", "word_of_heard", dArgs (top 52), .stmts (dBody (top 52)), dScope (top 52), 3, [], .none, .none, .none, .str "rulewardens.booktexts" 688, none, .ref 384, .none, 0⟩), ⟨[]⟩⟩
def o386 (P : Params) : Obj := ⟨.type "tuple", none, (.seq ⟨[]⟩ 0), ⟨[]⟩⟩
def o387 (P : Params) : Obj := ⟨.none, none, (.fields ⟨[]⟩), ⟨[]⟩⟩
def o388 (P : Params) : Obj := ⟨.type "tuple", none, (.seq ⟨[.str "words" 767]⟩ 0), ⟨[]⟩⟩
def o389 (P : Params) : Obj := ⟨.type "tuple", none, (.seq ⟨[]⟩ 0), ⟨[]⟩⟩
def o390 (P : Params) : Obj := ⟨.none, none, (.func ⟨"rooms_in", "rooms_in", dArgs (top 53), .stmts (dBody (top 53)), dScope (top 53), 0, [], .none, .none, .none, .none, none, .none, .none, 0⟩), ⟨[]⟩⟩
def o391 (P : Params) : Obj := ⟨.type "code", none, (.fields ⟨[.str "rooms_in" 764, .str "rooms_in" 765, .str "/claim/cut.py" 766, .int 135 0, .int 1 0, .int 0 0, .int 0 0, .int 3 0, .ref 386, .bool true, .int 181 0, .ref 387, .none, .ref 388, .ref 389, .ref 390, .int 768 0, .int 135 0, .str "/claim/cut.py" 769]⟩), ⟨[]⟩⟩
def o392 (P : Params) : Obj := ⟨.type "function", none, (.func ⟨"rooms_in", "rooms_in", dArgs (top 53), .stmts (dBody (top 53)), dScope (top 53), 3, [], .none, .none, .none, .str "rulewardens.booktexts" 688, none, .ref 391, .none, 0⟩), ⟨[]⟩⟩
def o393 (P : Params) : Obj := ⟨.type "tuple", none, (.seq ⟨[]⟩ 0), ⟨[]⟩⟩
def o394 (P : Params) : Obj := ⟨.none, none, (.fields ⟨[]⟩), ⟨[]⟩⟩
def o395 (P : Params) : Obj := ⟨.type "tuple", none, (.seq ⟨[.str "words" 774]⟩ 0), ⟨[]⟩⟩
def o396 (P : Params) : Obj := ⟨.type "tuple", none, (.seq ⟨[]⟩ 0), ⟨[]⟩⟩
def o397 (P : Params) : Obj := ⟨.none, none, (.func ⟨"first_in", "first_in", dArgs (top 54), .stmts (dBody (top 54)), dScope (top 54), 0, [], .none, .none, .none, .none, none, .none, .none, 0⟩), ⟨[]⟩⟩
def o398 (P : Params) : Obj := ⟨.type "code", none, (.fields ⟨[.str "first_in" 771, .str "first_in" 772, .str "/claim/cut.py" 773, .int 137 0, .int 1 0, .int 0 0, .int 0 0, .int 3 0, .ref 393, .bool true, .int 181 0, .ref 394, .none, .ref 395, .ref 396, .ref 397, .int 775 0, .int 137 0, .str "/claim/cut.py" 776]⟩), ⟨[]⟩⟩
def o399 (P : Params) : Obj := ⟨.type "function", none, (.func ⟨"first_in", "first_in", dArgs (top 54), .stmts (dBody (top 54)), dScope (top 54), 3, [], .none, .none, .none, .str "rulewardens.booktexts" 688, none, .ref 398, .none, 0⟩), ⟨[]⟩⟩
def o400 (P : Params) : Obj := ⟨.type "tuple", none, (.seq ⟨[]⟩ 0), ⟨[]⟩⟩
def o401 (P : Params) : Obj := ⟨.none, none, (.fields ⟨[]⟩), ⟨[]⟩⟩
def o402 (P : Params) : Obj := ⟨.none, none, (.func ⟨"move_in", "move_in", dArgs (top 55), .stmts (dBody (top 55)), dScope (top 55), 0, [], .none, .none, .none, .none, none, .none, .none, 0⟩), ⟨[]⟩⟩
def o403 (P : Params) : Obj := ⟨.type "code", none, (.fields ⟨[.str "move_in" 778, .str "move_in" 779, .str "/claim/cut.py" 780, .int 139 0, .int 1 0, .int 0 0, .int 0 0, .int 3 0, .ref 400, .bool true, .int 181 0, .ref 401, .none, .none, .none, .ref 402, .int 781 0, .int 139 0, .str "/claim/cut.py" 782]⟩), ⟨[]⟩⟩
def o404 (P : Params) : Obj := ⟨.type "function", none, (.func ⟨"move_in", "move_in", dArgs (top 55), .stmts (dBody (top 55)), dScope (top 55), 3, [], .none, .none, .none, .str "rulewardens.booktexts" 688, none, .ref 403, .none, 0⟩), ⟨[]⟩⟩
def o405 (P : Params) : Obj := ⟨.type "tuple", none, (.seq ⟨[]⟩ 0), ⟨[]⟩⟩
def o406 (P : Params) : Obj := ⟨.none, none, (.fields ⟨[]⟩), ⟨[]⟩⟩
def o407 (P : Params) : Obj := ⟨.none, none, (.func ⟨"face_in", "face_in", dArgs (top 56), .stmts (dBody (top 56)), dScope (top 56), 0, [], .none, .none, .none, .none, none, .none, .none, 0⟩), ⟨[]⟩⟩
def o408 (P : Params) : Obj := ⟨.type "code", none, (.fields ⟨[.str "face_in" 784, .str "face_in" 785, .str "/claim/cut.py" 786, .int 144 0, .int 1 0, .int 0 0, .int 0 0, .int 3 0, .ref 405, .bool true, .int 181 0, .ref 406, .none, .none, .none, .ref 407, .int 787 0, .int 144 0, .str "/claim/cut.py" 788]⟩), ⟨[]⟩⟩
def o409 (P : Params) : Obj := ⟨.type "function", none, (.func ⟨"face_in", "face_in", dArgs (top 56), .stmts (dBody (top 56)), dScope (top 56), 3, [], .none, .none, .none, .str "rulewardens.booktexts" 688, none, .ref 408, .none, 0⟩), ⟨[]⟩⟩
def o410 (P : Params) : Obj := ⟨.type "tuple", none, (.seq ⟨[]⟩ 0), ⟨[]⟩⟩
def o411 (P : Params) : Obj := ⟨.none, none, (.fields ⟨[]⟩), ⟨[]⟩⟩
def o412 (P : Params) : Obj := ⟨.type "tuple", none, (.seq ⟨[.str "words" 793]⟩ 0), ⟨[]⟩⟩
def o413 (P : Params) : Obj := ⟨.type "tuple", none, (.seq ⟨[]⟩ 0), ⟨[]⟩⟩
def o414 (P : Params) : Obj := ⟨.none, none, (.func ⟨"state_in", "state_in", dArgs (top 57), .stmts (dBody (top 57)), dScope (top 57), 0, [], .none, .none, .none, .none, none, .none, .none, 0⟩), ⟨[]⟩⟩
def o415 (P : Params) : Obj := ⟨.type "code", none, (.fields ⟨[.str "state_in" 790, .str "state_in" 791, .str "/claim/cut.py" 792, .int 148 0, .int 1 0, .int 0 0, .int 0 0, .int 3 0, .ref 410, .bool true, .int 181 0, .ref 411, .none, .ref 412, .ref 413, .ref 414, .int 794 0, .int 148 0, .str "/claim/cut.py" 795]⟩), ⟨[]⟩⟩
def o416 (P : Params) : Obj := ⟨.type "function", none, (.func ⟨"state_in", "state_in", dArgs (top 57), .stmts (dBody (top 57)), dScope (top 57), 3, [], .none, .none, .none, .str "rulewardens.booktexts" 688, none, .ref 415, .none, 0⟩), ⟨[]⟩⟩
def o417 (P : Params) : Obj := ⟨.type "tuple", none, (.seq ⟨[]⟩ 0), ⟨[]⟩⟩
def o418 (P : Params) : Obj := ⟨.none, none, (.fields ⟨[]⟩), ⟨[]⟩⟩
def o419 (P : Params) : Obj := ⟨.type "tuple", none, (.seq ⟨[.str "words" 800, .str "found" 801]⟩ 0), ⟨[]⟩⟩
def o420 (P : Params) : Obj := ⟨.type "tuple", none, (.seq ⟨[]⟩ 0), ⟨[]⟩⟩
def o421 (P : Params) : Obj := ⟨.none, none, (.func ⟨"step_in", "step_in", dArgs (top 58), .stmts (dBody (top 58)), dScope (top 58), 0, [], .none, .none, .none, .none, none, .none, .none, 0⟩), ⟨[]⟩⟩
def o422 (P : Params) : Obj := ⟨.type "code", none, (.fields ⟨[.str "step_in" 797, .str "step_in" 798, .str "/claim/cut.py" 799, .int 150 0, .int 1 0, .int 0 0, .int 0 0, .int 3 0, .ref 417, .bool true, .int 181 0, .ref 418, .none, .ref 419, .ref 420, .ref 421, .int 802 0, .int 150 0, .str "/claim/cut.py" 803]⟩), ⟨[]⟩⟩
def o423 (P : Params) : Obj := ⟨.type "function", none, (.func ⟨"step_in", "step_in", dArgs (top 58), .stmts (dBody (top 58)), dScope (top 58), 3, [], .none, .none, .none, .str "rulewardens.booktexts" 688, none, .ref 422, .none, 0⟩), ⟨[]⟩⟩
def o424 (P : Params) : Obj := ⟨.type "tuple", none, (.seq ⟨[]⟩ 0), ⟨[]⟩⟩
def o425 (P : Params) : Obj := ⟨.none, none, (.fields ⟨[]⟩), ⟨[]⟩⟩
def o426 (P : Params) : Obj := ⟨.none, none, (.func ⟨"lines_in", "lines_in", dArgs (top 59), .stmts (dBody (top 59)), dScope (top 59), 0, [], .none, .none, .none, .none, none, .none, .none, 0⟩), ⟨[]⟩⟩
def o427 (P : Params) : Obj := ⟨.type "code", none, (.fields ⟨[.str "lines_in" 805, .str "lines_in" 806, .str "/claim/cut.py" 807, .int 155 0, .int 1 0, .int 0 0, .int 0 0, .int 3 0, .ref 424, .bool true, .int 181 0, .ref 425, .none, .none, .none, .ref 426, .int 808 0, .int 155 0, .str "/claim/cut.py" 809]⟩), ⟨[]⟩⟩
def o428 (P : Params) : Obj := ⟨.type "function", none, (.func ⟨"lines_in", "lines_in", dArgs (top 59), .stmts (dBody (top 59)), dScope (top 59), 3, [], .none, .none, .none, .str "rulewardens.booktexts" 688, none, .ref 427, .none, 0⟩), ⟨[]⟩⟩
def o429 (P : Params) : Obj := ⟨.type "tuple", none, (.seq ⟨[]⟩ 0), ⟨[]⟩⟩
def o430 (P : Params) : Obj := ⟨.none, none, (.fields ⟨[]⟩), ⟨[]⟩⟩
def o431 (P : Params) : Obj := ⟨.type "tuple", none, (.seq ⟨[.str "lines" 814, .str "start" 815, .str "word" 816, .str "end" 817]⟩ 0), ⟨[]⟩⟩
def o432 (P : Params) : Obj := ⟨.type "tuple", none, (.seq ⟨[]⟩ 0), ⟨[]⟩⟩
def o433 (P : Params) : Obj := ⟨.none, none, (.func ⟨"lines_of_kind", "lines_of_kind", dArgs (top 60), .stmts (dBody (top 60)), dScope (top 60), 0, [], .none, .none, .none, .none, none, .none, .none, 0⟩), ⟨[]⟩⟩
def o434 (P : Params) : Obj := ⟨.type "code", none, (.fields ⟨[.str "lines_of_kind" 811, .str "lines_of_kind" 812, .str "/claim/cut.py" 813, .int 159 0, .int 3 0, .int 0 0, .int 0 0, .int 3 0, .ref 429, .bool true, .int 181 0, .ref 430, .none, .ref 431, .ref 432, .ref 433, .int 818 0, .int 159 0, .str "/claim/cut.py" 819]⟩), ⟨[]⟩⟩
def o435 (P : Params) : Obj := ⟨.type "function", none, (.func ⟨"lines_of_kind", "lines_of_kind", dArgs (top 60), .stmts (dBody (top 60)), dScope (top 60), 3, [], .none, .none, .none, .str "rulewardens.booktexts" 688, none, .ref 434, .none, 0⟩), ⟨[]⟩⟩
def o436 (P : Params) : Obj := ⟨.type "tuple", none, (.seq ⟨[]⟩ 0), ⟨[]⟩⟩
def o437 (P : Params) : Obj := ⟨.none, none, (.fields ⟨[]⟩), ⟨[]⟩⟩
def o438 (P : Params) : Obj := ⟨.none, none, (.func ⟨"lines_of_book", "lines_of_book", dArgs (top 61), .stmts (dBody (top 61)), dScope (top 61), 0, [], .none, .none, .none, .none, none, .none, .none, 0⟩), ⟨[]⟩⟩
def o439 (P : Params) : Obj := ⟨.type "code", none, (.fields ⟨[.str "lines_of_book" 821, .str "lines_of_book" 822, .str "/claim/cut.py" 823, .int 164 0, .int 3 0, .int 0 0, .int 0 0, .int 3 0, .ref 436, .bool true, .int 181 0, .ref 437, .none, .none, .none, .ref 438, .int 824 0, .int 164 0, .str "/claim/cut.py" 825]⟩), ⟨[]⟩⟩
def o440 (P : Params) : Obj := ⟨.type "function", none, (.func ⟨"lines_of_book", "lines_of_book", dArgs (top 61), .stmts (dBody (top 61)), dScope (top 61), 3, [], .none, .none, .none, .str "rulewardens.booktexts" 688, none, .ref 439, .none, 0⟩), ⟨[]⟩⟩
def o441 (P : Params) : Obj := ⟨.type "tuple", none, (.seq ⟨[]⟩ 0), ⟨[]⟩⟩
def o442 (P : Params) : Obj := ⟨.none, none, (.fields ⟨[]⟩), ⟨[]⟩⟩
def o443 (P : Params) : Obj := ⟨.none, none, (.func ⟨"lines_of_device", "lines_of_device", dArgs (top 62), .stmts (dBody (top 62)), dScope (top 62), 0, [], .none, .none, .none, .none, none, .none, .none, 0⟩), ⟨[]⟩⟩
def o444 (P : Params) : Obj := ⟨.type "code", none, (.fields ⟨[.str "lines_of_device" 827, .str "lines_of_device" 828, .str "/claim/cut.py" 829, .int 171 0, .int 3 0, .int 0 0, .int 0 0, .int 3 0, .ref 441, .bool true, .int 181 0, .ref 442, .none, .none, .none, .ref 443, .int 830 0, .int 171 0, .str "/claim/cut.py" 831]⟩), ⟨[]⟩⟩
def o445 (P : Params) : Obj := ⟨.type "function", none, (.func ⟨"lines_of_device", "lines_of_device", dArgs (top 62), .stmts (dBody (top 62)), dScope (top 62), 3, [], .none, .none, .none, .str "rulewardens.booktexts" 688, none, .ref 444, .none, 0⟩), ⟨[]⟩⟩
def o446 (P : Params) : Obj := ⟨.type "tuple", none, (.seq ⟨[]⟩ 0), ⟨[]⟩⟩
def o447 (P : Params) : Obj := ⟨.none, none, (.fields ⟨[]⟩), ⟨[]⟩⟩
def o448 (P : Params) : Obj := ⟨.none, none, (.func ⟨"lines_of_faces", "lines_of_faces", dArgs (top 63), .stmts (dBody (top 63)), dScope (top 63), 0, [], .none, .none, .none, .none, none, .none, .none, 0⟩), ⟨[]⟩⟩
def o449 (P : Params) : Obj := ⟨.type "code", none, (.fields ⟨[.str "lines_of_faces" 833, .str "lines_of_faces" 834, .str "/claim/cut.py" 835, .int 175 0, .int 1 0, .int 0 0, .int 0 0, .int 3 0, .ref 446, .bool true, .int 181 0, .ref 447, .none, .none, .none, .ref 448, .int 836 0, .int 175 0, .str "/claim/cut.py" 837]⟩), ⟨[]⟩⟩
def o450 (P : Params) : Obj := ⟨.type "function", none, (.func ⟨"lines_of_faces", "lines_of_faces", dArgs (top 63), .stmts (dBody (top 63)), dScope (top 63), 3, [], .none, .none, .none, .str "rulewardens.booktexts" 688, none, .ref 449, .none, 0⟩), ⟨[]⟩⟩
def o451 (P : Params) : Obj := ⟨.type "tuple", none, (.seq ⟨[]⟩ 0), ⟨[]⟩⟩
def o452 (P : Params) : Obj := ⟨.none, none, (.fields ⟨[]⟩), ⟨[]⟩⟩
def o453 (P : Params) : Obj := ⟨.type "tuple", none, (.seq ⟨[.str "thing" 853]⟩ 0), ⟨[]⟩⟩
def o454 (P : Params) : Obj := ⟨.type "tuple", none, (.seq ⟨[]⟩ 0), ⟨[]⟩⟩
def o455 (P : Params) : Obj := ⟨.none, none, (.func ⟨"is_integer", "is_integer", dArgs (top 69), .stmts (dBody (top 69)), dScope (top 69), 0, [], .none, .none, .none, .none, none, .none, .none, 0⟩), ⟨[]⟩⟩
def o456 (P : Params) : Obj := ⟨.type "code", none, (.fields ⟨[.str "is_integer" 850, .str "is_integer" 851, .str "/claim/cut.py" 852, .int 182 0, .int 1 0, .int 0 0, .int 0 0, .int 3 0, .ref 451, .bool true, .int 181 0, .ref 452, .none, .ref 453, .ref 454, .ref 455, .int 854 0, .int 182 0, .str "/claim/cut.py" 855]⟩), ⟨[]⟩⟩
def o457 (P : Params) : Obj := ⟨.type "function", none, (.func ⟨"is_integer", "is_integer", dArgs (top 69), .stmts (dBody (top 69)), dScope (top 69), 3, [], .none, .none, .none, .str "rulewardens.books" 839, none, .ref 456, .none, 0⟩), ⟨[]⟩⟩
def o458 (P : Params) : Obj := ⟨.type "tuple", none, (.seq ⟨[]⟩ 0), ⟨[]⟩⟩
def o459 (P : Params) : Obj := ⟨.none, none, (.fields ⟨[]⟩), ⟨[]⟩⟩
def o460 (P : Params) : Obj := ⟨.type "tuple", none, (.seq ⟨[.str "least" 860, .str "greatest" 861, .str "thing" 862]⟩ 0), ⟨[]⟩⟩
def o461 (P : Params) : Obj := ⟨.type "tuple", none, (.seq ⟨[]⟩ 0), ⟨[]⟩⟩
def o462 (P : Params) : Obj := ⟨.none, none, (.func ⟨"is_between", "is_between", dArgs (top 70), .stmts (dBody (top 70)), dScope (top 70), 0, [], .none, .none, .none, .none, none, .none, .none, 0⟩), ⟨[]⟩⟩
def o463 (P : Params) : Obj := ⟨.type "code", none, (.fields ⟨[.str "is_between" 857, .str "is_between" 858, .str "/claim/cut.py" 859, .int 184 0, .int 3 0, .int 0 0, .int 0 0, .int 3 0, .ref 458, .bool true, .int 181 0, .ref 459, .none, .ref 460, .ref 461, .ref 462, .int 863 0, .int 184 0, .str "/claim/cut.py" 864]⟩), ⟨[]⟩⟩
def o464 (P : Params) : Obj := ⟨.type "function", none, (.func ⟨"is_between", "is_between", dArgs (top 70), .stmts (dBody (top 70)), dScope (top 70), 3, [], .none, .none, .none, .str "rulewardens.books" 839, none, .ref 463, .none, 0⟩), ⟨[]⟩⟩
def o465 (P : Params) : Obj := ⟨.type "tuple", none, (.seq ⟨[]⟩ 0), ⟨[]⟩⟩
def o466 (P : Params) : Obj := ⟨.none, none, (.fields ⟨[]⟩), ⟨[]⟩⟩
def o467 (P : Params) : Obj := ⟨.none, none, (.func ⟨"are_ascending", "are_ascending", dArgs (top 71), .stmts (dBody (top 71)), dScope (top 71), 0, [], .none, .none, .none, .none, none, .none, .none, 0⟩), ⟨[]⟩⟩
def o468 (P : Params) : Obj := ⟨.type "code", none, (.fields ⟨[.str "are_ascending" 866, .str "are_ascending" 867, .str "/claim/cut.py" 868, .int 186 0, .int 3 0, .int 0 0, .int 0 0, .int 3 0, .ref 465, .bool true, .int 181 0, .ref 466, .none, .none, .none, .ref 467, .int 869 0, .int 186 0, .str "/claim/cut.py" 870]⟩), ⟨[]⟩⟩
def o469 (P : Params) : Obj := ⟨.type "function", none, (.func ⟨"are_ascending", "are_ascending", dArgs (top 71), .stmts (dBody (top 71)), dScope (top 71), 3, [], .none, .none, .none, .str "rulewardens.books" 839, none, .ref 468, .none, 0⟩), ⟨[]⟩⟩
def o470 (P : Params) : Obj := ⟨.type "tuple", none, (.seq ⟨[]⟩ 0), ⟨[]⟩⟩
def o471 (P : Params) : Obj := ⟨.none, none, (.fields ⟨[]⟩), ⟨[]⟩⟩
def o472 (P : Params) : Obj := ⟨.none, none, (.func ⟨"is_heard", "is_heard", dArgs (top 72), .stmts (dBody (top 72)), dScope (top 72), 0, [], .none, .none, .none, .none, none, .none, .none, 0⟩), ⟨[]⟩⟩
def o473 (P : Params) : Obj := ⟨.type "code", none, (.fields ⟨[.str "is_heard" 872, .str "is_heard" 873, .str "/claim/cut.py" 874, .int 190 0, .int 1 0, .int 0 0, .int 0 0, .int 3 0, .ref 470, .bool true, .int 181 0, .ref 471, .none, .none, .none, .ref 472, .int 875 0, .int 190 0, .str "/claim/cut.py" 876]⟩), ⟨[]⟩⟩
def o474 (P : Params) : Obj := ⟨.type "function", none, (.func ⟨"is_heard", "is_heard", dArgs (top 72), .stmts (dBody (top 72)), dScope (top 72), 3, [], .none, .none, .none, .str "rulewardens.books" 839, none, .ref 473, .none, 0⟩), ⟨[]⟩⟩
def o475 (P : Params) : Obj := ⟨.type "tuple", none, (.seq ⟨[]⟩ 0), ⟨[]⟩⟩
def o476 (P : Params) : Obj := ⟨.none, none, (.fields ⟨[]⟩), ⟨[]⟩⟩
def o477 (P : Params) : Obj := ⟨.none, none, (.func ⟨"are_rooms", "are_rooms", dArgs (top 73), .stmts (dBody (top 73)), dScope (top 73), 0, [], .none, .none, .none, .none, none, .none, .none, 0⟩), ⟨[]⟩⟩
def o478 (P : Params) : Obj := ⟨.type "code", none, (.fields ⟨[.str "are_rooms" 878, .str "are_rooms" 879, .str "/claim/cut.py" 880, .int 194 0, .int 1 0, .int 0 0, .int 0 0, .int 3 0, .ref 475, .bool true, .int 181 0, .ref 476, .none, .none, .none, .ref 477, .int 881 0, .int 194 0, .str "/claim/cut.py" 882]⟩), ⟨[]⟩⟩
def o479 (P : Params) : Obj := ⟨.type "function", none, (.func ⟨"are_rooms", "are_rooms", dArgs (top 73), .stmts (dBody (top 73)), dScope (top 73), 3, [], .none, .none, .none, .str "rulewardens.books" 839, none, .ref 478, .none, 0⟩), ⟨[]⟩⟩
def o480 (P : Params) : Obj := ⟨.type "tuple", none, (.seq ⟨[]⟩ 0), ⟨[]⟩⟩
def o481 (P : Params) : Obj := ⟨.none, none, (.fields ⟨[]⟩), ⟨[]⟩⟩
def o482 (P : Params) : Obj := ⟨.none, none, (.func ⟨"is_move", "is_move", dArgs (top 74), .stmts (dBody (top 74)), dScope (top 74), 0, [], .none, .none, .none, .none, none, .none, .none, 0⟩), ⟨[]⟩⟩
def o483 (P : Params) : Obj := ⟨.type "code", none, (.fields ⟨[.str "is_move" 884, .str "is_move" 885, .str "/claim/cut.py" 886, .int 196 0, .int 2 0, .int 0 0, .int 0 0, .int 3 0, .ref 480, .bool true, .int 181 0, .ref 481, .none, .none, .none, .ref 482, .int 887 0, .int 196 0, .str "/claim/cut.py" 888]⟩), ⟨[]⟩⟩
def o484 (P : Params) : Obj := ⟨.type "function", none, (.func ⟨"is_move", "is_move", dArgs (top 74), .stmts (dBody (top 74)), dScope (top 74), 3, [], .none, .none, .none, .str "rulewardens.books" 839, none, .ref 483, .none, 0⟩), ⟨[]⟩⟩
def o485 (P : Params) : Obj := ⟨.type "tuple", none, (.seq ⟨[]⟩ 0), ⟨[]⟩⟩
def o486 (P : Params) : Obj := ⟨.none, none, (.fields ⟨[]⟩), ⟨[]⟩⟩
def o487 (P : Params) : Obj := ⟨.type "tuple", none, (.seq ⟨[.str "rooms" 893, .str "moves" 894, .str "number" 895, .str "move" 896]⟩ 0), ⟨[]⟩⟩
def o488 (P : Params) : Obj := ⟨.type "tuple", none, (.seq ⟨[]⟩ 0), ⟨[]⟩⟩
def o489 (P : Params) : Obj := ⟨.none, none, (.func ⟨"check_moves", "check_moves", dArgs (top 75), .stmts (dBody (top 75)), dScope (top 75), 0, [], .none, .none, .none, .none, none, .none, .none, 0⟩), ⟨[]⟩⟩
def o490 (P : Params) : Obj := ⟨.type "code", none, (.fields ⟨[.str "check_moves" 890, .str "check_moves" 891, .str "/claim/cut.py" 892, .int 207 0, .int 2 0, .int 0 0, .int 0 0, .int 3 0, .ref 485, .bool true, .int 181 0, .ref 486, .none, .ref 487, .ref 488, .ref 489, .int 897 0, .int 207 0, .str "/claim/cut.py" 898]⟩), ⟨[]⟩⟩
def o491 (P : Params) : Obj := ⟨.type "function", none, (.func ⟨"check_moves", "check_moves", dArgs (top 75), .stmts (dBody (top 75)), dScope (top 75), 3, [], .none, .none, .none, .str "rulewardens.books" 839, none, .ref 490, .none, 0⟩), ⟨[]⟩⟩
def o492 (P : Params) : Obj := ⟨.type "tuple", none, (.seq ⟨[]⟩ 0), ⟨[]⟩⟩
def o493 (P : Params) : Obj := ⟨.none, none, (.fields ⟨[]⟩), ⟨[]⟩⟩
def o494 (P : Params) : Obj := ⟨.type "tuple", none, (.seq ⟨[.str "lines" 903, .str "rooms" 904, .str "first" 905, .str "end" 906, .str "moves" 907, .str "number" 908, .str "words" 909, .str "move" 910]⟩ 0), ⟨[]⟩⟩
def o495 (P : Params) : Obj := ⟨.type "tuple", none, (.seq ⟨[]⟩ 0), ⟨[]⟩⟩
def o496 (P : Params) : Obj := ⟨.none, none, (.func ⟨"book_lines", "book_lines", dArgs (top 76), .stmts (dBody (top 76)), dScope (top 76), 0, [], .none, .none, .none, .none, none, .none, .none, 0⟩), ⟨[]⟩⟩
def o497 (P : Params) : Obj := ⟨.type "code", none, (.fields ⟨[.str "book_lines" 900, .str "book_lines" 901, .str "/claim/cut.py" 902, .int 213 0, .int 1 0, .int 0 0, .int 0 0, .int 3 0, .ref 492, .bool true, .int 181 0, .ref 493, .none, .ref 494, .ref 495, .ref 496, .int 911 0, .int 213 0, .str "/claim/cut.py" 912]⟩), ⟨[]⟩⟩
def o498 (P : Params) : Obj := ⟨.type "function", none, (.func ⟨"book_lines", "book_lines", dArgs (top 76), .stmts (dBody (top 76)), dScope (top 76), 3, [], .none, .none, .none, .str "rulewardens.books" 839, none, .ref 497, .none, 0⟩), ⟨[]⟩⟩
def o499 (P : Params) : Obj := ⟨.type "tuple", none, (.seq ⟨[]⟩ 0), ⟨[]⟩⟩
def o500 (P : Params) : Obj := ⟨.type "builtin_function_or_method", none, (.fields ⟨[.builtin "type.__prepare__", .type "type"]⟩), ⟨[]⟩⟩
def o501 (P : Params) : Obj := ⟨.type "dict", none, (.dict ⟨[⟨hs P "__module__", .str "__module__" 921, .str "rulewardens.books" 839⟩, ⟨hs P "__qualname__", .str "__qualname__" 923, .str "Book" 922⟩, ⟨hs P "__firstlineno__", .str "__firstlineno__" 925, .int 228 924⟩, ⟨hs P "__init__", .str "__init__" 935, .ref 512⟩, ⟨hs P "read", .str "read" 960, .ref 521⟩, ⟨hs P "__str__", .str "__str__" 967, .ref 529⟩, ⟨hs P "__eq__", .str "__eq__" 975, .ref 536⟩, ⟨hs P "__len__", .str "__len__" 982, .ref 543⟩, ⟨hs P "without_moves", .str "without_moves" 988, .ref 548⟩, ⟨hs P "__static_attributes__", .str "__static_attributes__" 994, .ref 549⟩]⟩ 10), ⟨[]⟩⟩
def o502 (P : Params) : Obj := ⟨.type "tuple", none, (.seq ⟨[]⟩ 0), ⟨[]⟩⟩
def o503 (P : Params) : Obj := ⟨.none, none, (.fields ⟨[.int 230 0, .int 4 0, .ref 511, .int 243 0, .int 4 0, .ref 518, .int 250 0, .int 4 0, .ref 528, .int 253 0, .int 4 0, .ref 535, .int 258 0, .int 4 0, .ref 542, .int 261 0, .int 4 0, .ref 547]⟩), ⟨[]⟩⟩
def o504 (P : Params) : Obj := ⟨.type "code", none, (.fields ⟨[.str "Book" 916, .str "Book" 917, .str "/claim/cut.py" 918, .int 228 0, .int 0 0, .int 0 0, .int 0 0, .int 0 0, .ref 502, .bool false, .int 181 0, .ref 503, .none, .none, .none, .none, .int 919 0, .int 228 0, .str "/claim/cut.py" 920]⟩), ⟨[]⟩⟩
def o505 (P : Params) : Obj := ⟨.type "frame", none, .plain, ⟨[(some (.ref 504)), (some (.ref 3)), (some (.ref 501)), none, (some (.str "rulewardens.books" 839)), none, (some (.ref 0))]⟩⟩
def o506 (P : Params) : Obj := ⟨.type "tuple", none, (.seq ⟨[]⟩ 0), ⟨[]⟩⟩
def o507 (P : Params) : Obj := ⟨.none, none, (.fields ⟨[]⟩), ⟨[]⟩⟩
def o508 (P : Params) : Obj := ⟨.type "tuple", none, (.seq ⟨[.str "self" 929, .str "rooms" 930, .str "moves" 931, .str "first" 932]⟩ 0), ⟨[]⟩⟩
def o509 (P : Params) : Obj := ⟨.type "tuple", none, (.seq ⟨[]⟩ 0), ⟨[]⟩⟩
def o510 (P : Params) : Obj := ⟨.none, none, (.func ⟨"__init__", "Book.__init__", dArgs (inC (top 77) 0), .stmts (dBody (inC (top 77) 0)), dScope (inC (top 77) 0), 0, [], .none, .none, .none, .none, none, .none, .none, 0⟩), ⟨[]⟩⟩
def o511 (P : Params) : Obj := ⟨.type "code", none, (.fields ⟨[.str "__init__" 926, .str "Book.__init__" 927, .str "/claim/cut.py" 928, .int 230 0, .int 4 0, .int 0 0, .int 0 0, .int 3 0, .ref 506, .bool true, .int 181 0, .ref 507, .none, .ref 508, .ref 509, .ref 510, .int 933 0, .int 230 0, .str "/claim/cut.py" 934]⟩), ⟨[]⟩⟩
def o512 (P : Params) : Obj := ⟨.type "function", none, (.func ⟨"__init__", "Book.__init__", dArgs (inC (top 77) 0), .stmts (dBody (inC (top 77) 0)), dScope (inC (top 77) 0), 3, [], .none, .none, .none, .str "rulewardens.books" 839, none, .ref 511, .none, 0⟩), ⟨[]⟩⟩
def o513 (P : Params) : Obj := ⟨.type "tuple", none, (.seq ⟨[]⟩ 0), ⟨[]⟩⟩
def o514 (P : Params) : Obj := ⟨.none, none, (.fields ⟨[]⟩), ⟨[]⟩⟩
def o515 (P : Params) : Obj := ⟨.type "tuple", none, (.seq ⟨[.str "cls" 939, .str "text" 940, .str "lines" 941, .str "rooms" 942, .str "moves" 943, .str "first" 944, .str "end" 945]⟩ 0), ⟨[]⟩⟩
def o516 (P : Params) : Obj := ⟨.type "tuple", none, (.seq ⟨[]⟩ 0), ⟨[]⟩⟩
def o517 (P : Params) : Obj := ⟨.none, none, (.func ⟨"read", "Book.read", dArgs (inC (top 77) 1), .stmts (dBody (inC (top 77) 1)), dScope (inC (top 77) 1), 0, [], .none, .none, .none, .none, none, .none, .none, 0⟩), ⟨[]⟩⟩
def o518 (P : Params) : Obj := ⟨.type "code", none, (.fields ⟨[.str "read" 936, .str "Book.read" 937, .str "/claim/cut.py" 938, .int 242 0, .int 2 0, .int 0 0, .int 0 0, .int 3 0, .ref 513, .bool true, .int 181 0, .ref 514, .none, .ref 515, .ref 516, .ref 517, .int 946 0, .int 242 0, .str "/claim/cut.py" 947]⟩), ⟨[]⟩⟩
def o519 (P : Params) : Obj := ⟨.type "function", none, (.func ⟨"read", "Book.read", dArgs (inC (top 77) 1), .stmts (dBody (inC (top 77) 1)), dScope (inC (top 77) 1), 3, [], .none, .none, .none, .str "rulewardens.books" 839, (some 522), .ref 518, .none, 0⟩), ⟨[]⟩⟩
def o520 (P : Params) : Obj := ⟨.type "dict", none, (.dict ⟨[⟨hs P "__module__", .str "__module__" 949, .str "rulewardens.books" 839⟩, ⟨hs P "__name__", .str "__name__" 952, .str "read" 951⟩, ⟨hs P "__qualname__", .str "__qualname__" 955, .str "Book.read" 954⟩, ⟨hs P "__doc__", .str "__doc__" 957, .none⟩, ⟨hs P "__annotations__", .str "__annotations__" 959, .ref 522⟩]⟩ 5), ⟨[]⟩⟩
def o521 (P : Params) : Obj := ⟨.type "classmethod", (some 520), (.fields ⟨[.ref 519, .bool false]⟩), ⟨[]⟩⟩
def o522 (P : Params) : Obj := ⟨.type "dict", none, (.dict ⟨[]⟩ 0), ⟨[]⟩⟩
def o523 (P : Params) : Obj := ⟨.type "tuple", none, (.seq ⟨[]⟩ 0), ⟨[]⟩⟩
def o524 (P : Params) : Obj := ⟨.none, none, (.fields ⟨[]⟩), ⟨[]⟩⟩
def o525 (P : Params) : Obj := ⟨.type "tuple", none, (.seq ⟨[.str "self" 964]⟩ 0), ⟨[]⟩⟩
def o526 (P : Params) : Obj := ⟨.type "tuple", none, (.seq ⟨[]⟩ 0), ⟨[]⟩⟩
def o527 (P : Params) : Obj := ⟨.none, none, (.func ⟨"__str__", "Book.__str__", dArgs (inC (top 77) 2), .stmts (dBody (inC (top 77) 2)), dScope (inC (top 77) 2), 0, [], .none, .none, .none, .none, none, .none, .none, 0⟩), ⟨[]⟩⟩
def o528 (P : Params) : Obj := ⟨.type "code", none, (.fields ⟨[.str "__str__" 961, .str "Book.__str__" 962, .str "/claim/cut.py" 963, .int 250 0, .int 1 0, .int 0 0, .int 0 0, .int 3 0, .ref 523, .bool true, .int 181 0, .ref 524, .none, .ref 525, .ref 526, .ref 527, .int 965 0, .int 250 0, .str "/claim/cut.py" 966]⟩), ⟨[]⟩⟩
def o529 (P : Params) : Obj := ⟨.type "function", none, (.func ⟨"__str__", "Book.__str__", dArgs (inC (top 77) 2), .stmts (dBody (inC (top 77) 2)), dScope (inC (top 77) 2), 3, [], .none, .none, .none, .str "rulewardens.books" 839, none, .ref 528, .none, 0⟩), ⟨[]⟩⟩
def o530 (P : Params) : Obj := ⟨.type "tuple", none, (.seq ⟨[]⟩ 0), ⟨[]⟩⟩
def o531 (P : Params) : Obj := ⟨.none, none, (.fields ⟨[]⟩), ⟨[]⟩⟩
def o532 (P : Params) : Obj := ⟨.type "tuple", none, (.seq ⟨[.str "self" 971, .str "other" 972]⟩ 0), ⟨[]⟩⟩
def o533 (P : Params) : Obj := ⟨.type "tuple", none, (.seq ⟨[]⟩ 0), ⟨[]⟩⟩
def o534 (P : Params) : Obj := ⟨.none, none, (.func ⟨"__eq__", "Book.__eq__", dArgs (inC (top 77) 3), .stmts (dBody (inC (top 77) 3)), dScope (inC (top 77) 3), 0, [], .none, .none, .none, .none, none, .none, .none, 0⟩), ⟨[]⟩⟩
def o535 (P : Params) : Obj := ⟨.type "code", none, (.fields ⟨[.str "__eq__" 968, .str "Book.__eq__" 969, .str "/claim/cut.py" 970, .int 253 0, .int 2 0, .int 0 0, .int 0 0, .int 3 0, .ref 530, .bool true, .int 181 0, .ref 531, .none, .ref 532, .ref 533, .ref 534, .int 973 0, .int 253 0, .str "/claim/cut.py" 974]⟩), ⟨[]⟩⟩
def o536 (P : Params) : Obj := ⟨.type "function", none, (.func ⟨"__eq__", "Book.__eq__", dArgs (inC (top 77) 3), .stmts (dBody (inC (top 77) 3)), dScope (inC (top 77) 3), 3, [], .none, .none, .none, .str "rulewardens.books" 839, none, .ref 535, .none, 0⟩), ⟨[]⟩⟩
def o537 (P : Params) : Obj := ⟨.type "tuple", none, (.seq ⟨[]⟩ 0), ⟨[]⟩⟩
def o538 (P : Params) : Obj := ⟨.none, none, (.fields ⟨[]⟩), ⟨[]⟩⟩
def o539 (P : Params) : Obj := ⟨.type "tuple", none, (.seq ⟨[.str "self" 979]⟩ 0), ⟨[]⟩⟩
def o540 (P : Params) : Obj := ⟨.type "tuple", none, (.seq ⟨[]⟩ 0), ⟨[]⟩⟩
def o541 (P : Params) : Obj := ⟨.none, none, (.func ⟨"__len__", "Book.__len__", dArgs (inC (top 77) 4), .stmts (dBody (inC (top 77) 4)), dScope (inC (top 77) 4), 0, [], .none, .none, .none, .none, none, .none, .none, 0⟩), ⟨[]⟩⟩
def o542 (P : Params) : Obj := ⟨.type "code", none, (.fields ⟨[.str "__len__" 976, .str "Book.__len__" 977, .str "/claim/cut.py" 978, .int 258 0, .int 1 0, .int 0 0, .int 0 0, .int 3 0, .ref 537, .bool true, .int 181 0, .ref 538, .none, .ref 539, .ref 540, .ref 541, .int 980 0, .int 258 0, .str "/claim/cut.py" 981]⟩), ⟨[]⟩⟩
def o543 (P : Params) : Obj := ⟨.type "function", none, (.func ⟨"__len__", "Book.__len__", dArgs (inC (top 77) 4), .stmts (dBody (inC (top 77) 4)), dScope (inC (top 77) 4), 3, [], .none, .none, .none, .str "rulewardens.books" 839, none, .ref 542, .none, 0⟩), ⟨[]⟩⟩
def o544 (P : Params) : Obj := ⟨.type "tuple", none, (.seq ⟨[]⟩ 0), ⟨[]⟩⟩
def o545 (P : Params) : Obj := ⟨.none, none, (.fields ⟨[]⟩), ⟨[]⟩⟩
def o546 (P : Params) : Obj := ⟨.none, none, (.func ⟨"without_moves", "Book.without_moves", dArgs (inC (top 77) 5), .stmts (dBody (inC (top 77) 5)), dScope (inC (top 77) 5), 0, [], .none, .none, .none, .none, none, .none, .none, 0⟩), ⟨[]⟩⟩
def o547 (P : Params) : Obj := ⟨.type "code", none, (.fields ⟨[.str "without_moves" 983, .str "Book.without_moves" 984, .str "/claim/cut.py" 985, .int 261 0, .int 2 0, .int 0 0, .int 0 0, .int 3 0, .ref 544, .bool true, .int 181 0, .ref 545, .none, .none, .none, .ref 546, .int 986 0, .int 261 0, .str "/claim/cut.py" 987]⟩), ⟨[]⟩⟩
def o548 (P : Params) : Obj := ⟨.type "function", none, (.func ⟨"without_moves", "Book.without_moves", dArgs (inC (top 77) 5), .stmts (dBody (inC (top 77) 5)), dScope (inC (top 77) 5), 3, [], .none, .none, .none, .str "rulewardens.books" 839, none, .ref 547, .none, 0⟩), ⟨[]⟩⟩
def o549 (P : Params) : Obj := ⟨.type "tuple", none, (.seq ⟨[.str "ends_known" 989, .str "first" 990, .str "moves" 991, .str "open_known" 992, .str "rooms" 993]⟩ 0), ⟨[]⟩⟩
def o550 (P : Params) : Obj := ⟨.type "dict", none, (.dict ⟨[⟨hs P "__module__", .str "__module__" 921, .str "rulewardens.books" 839⟩, ⟨hs P "__firstlineno__", .str "__firstlineno__" 925, .int 228 924⟩, ⟨hs P "__init__", .str "__init__" 935, .ref 512⟩, ⟨hs P "read", .str "read" 960, .ref 521⟩, ⟨hs P "__str__", .str "__str__" 967, .ref 529⟩, ⟨hs P "__eq__", .str "__eq__" 975, .ref 536⟩, ⟨hs P "__len__", .str "__len__" 982, .ref 543⟩, ⟨hs P "without_moves", .str "without_moves" 988, .ref 548⟩, ⟨hs P "__static_attributes__", .str "__static_attributes__" 994, .ref 549⟩, ⟨hs P "__dict__", .str "__dict__" 996, .ref 552⟩, ⟨hs P "__weakref__", .str "__weakref__" 998, .ref 553⟩, ⟨hs P "__doc__", .str "__doc__" 999, .none⟩, ⟨hs P "__hash__", .str "__hash__" 1000, .none⟩]⟩ 5), ⟨[]⟩⟩
def o551 (P : Params) : Obj := ⟨.type "type", none, (.cls ⟨"Book", [.type "object"], [.ref 551, .type "object"], 550, "Book", true, [], [], false, none, false⟩), ⟨[none, none, (some (.str "Book" 914)), (some (.str "Book" 922)), (some (.builtin "object.__new__")), (some (.bool true))]⟩⟩
def o552 (P : Params) : Obj := ⟨.type "getset_descriptor", none, (.fields ⟨[.str "__dict__" 995, .ref 551, .builtin "function.__dict__", .builtin "function.__dict__#set"]⟩), ⟨[]⟩⟩
def o553 (P : Params) : Obj := ⟨.type "getset_descriptor", none, (.fields ⟨[.str "__weakref__" 997, .ref 551, .builtin "ExceptionGroup.__weakref__", .none]⟩), ⟨[]⟩⟩
def o554 (P : Params) : Obj := ⟨.type "super", none, (.fields ⟨[.ref 551, .ref 551, .ref 551]⟩), ⟨[]⟩⟩
def o555 (P : Params) : Obj := ⟨.type "builtin_function_or_method", none, (.fields ⟨[.builtin "object.__init_subclass__", .ref 551]⟩), ⟨[]⟩⟩
def o556 (P : Params) : Obj := ⟨.type "tuple", none, (.seq ⟨[]⟩ 0), ⟨[]⟩⟩
def o557 (P : Params) : Obj := ⟨.none, none, (.fields ⟨[]⟩), ⟨[]⟩⟩
def o558 (P : Params) : Obj := ⟨.none, none, (.func ⟨"has_somebody", "has_somebody", dArgs (top 78), .stmts (dBody (top 78)), dScope (top 78), 0, [], .none, .none, .none, .none, none, .none, .none, 0⟩), ⟨[]⟩⟩
def o559 (P : Params) : Obj := ⟨.type "code", none, (.fields ⟨[.str "has_somebody" 1003, .str "has_somebody" 1004, .str "/claim/cut.py" 1005, .int 264 0, .int 2 0, .int 0 0, .int 0 0, .int 3 0, .ref 556, .bool true, .int 181 0, .ref 557, .none, .none, .none, .ref 558, .int 1006 0, .int 264 0, .str "/claim/cut.py" 1007]⟩), ⟨[]⟩⟩
def o560 (P : Params) : Obj := ⟨.type "function", none, (.func ⟨"has_somebody", "has_somebody", dArgs (top 78), .stmts (dBody (top 78)), dScope (top 78), 3, [], .none, .none, .none, .str "rulewardens.books" 839, none, .ref 559, .none, 0⟩), ⟨[]⟩⟩
def o561 (P : Params) : Obj := ⟨.type "tuple", none, (.seq ⟨[]⟩ 0), ⟨[]⟩⟩
def o562 (P : Params) : Obj := ⟨.none, none, (.fields ⟨[]⟩), ⟨[]⟩⟩
def o563 (P : Params) : Obj := ⟨.none, none, (.func ⟨"rooms_seen", "rooms_seen", dArgs (top 79), .stmts (dBody (top 79)), dScope (top 79), 0, [], .none, .none, .none, .none, none, .none, .none, 0⟩), ⟨[]⟩⟩
def o564 (P : Params) : Obj := ⟨.type "code", none, (.fields ⟨[.str "rooms_seen" 1009, .str "rooms_seen" 1010, .str "/claim/cut.py" 1011, .int 266 0, .int 2 0, .int 0 0, .int 0 0, .int 3 0, .ref 561, .bool true, .int 181 0, .ref 562, .none, .none, .none, .ref 563, .int 1012 0, .int 266 0, .str "/claim/cut.py" 1013]⟩), ⟨[]⟩⟩
def o565 (P : Params) : Obj := ⟨.type "function", none, (.func ⟨"rooms_seen", "rooms_seen", dArgs (top 79), .stmts (dBody (top 79)), dScope (top 79), 3, [], .none, .none, .none, .str "rulewardens.books" 839, none, .ref 564, .none, 0⟩), ⟨[]⟩⟩
def o566 (P : Params) : Obj := ⟨.type "tuple", none, (.seq ⟨[]⟩ 0), ⟨[]⟩⟩
def o567 (P : Params) : Obj := ⟨.none, none, (.fields ⟨[]⟩), ⟨[]⟩⟩
def o568 (P : Params) : Obj := ⟨.none, none, (.func ⟨"is_move_open", "is_move_open", dArgs (top 80), .stmts (dBody (top 80)), dScope (top 80), 0, [], .none, .none, .none, .none, none, .none, .none, 0⟩), ⟨[]⟩⟩
def o569 (P : Params) : Obj := ⟨.type "code", none, (.fields ⟨[.str "is_move_open" 1015, .str "is_move_open" 1016, .str "/claim/cut.py" 1017, .int 268 0, .int 4 0, .int 0 0, .int 0 0, .int 3 0, .ref 566, .bool true, .int 181 0, .ref 567, .none, .none, .none, .ref 568, .int 1018 0, .int 268 0, .str "/claim/cut.py" 1019]⟩), ⟨[]⟩⟩
def o570 (P : Params) : Obj := ⟨.type "function", none, (.func ⟨"is_move_open", "is_move_open", dArgs (top 80), .stmts (dBody (top 80)), dScope (top 80), 3, [], .none, .none, .none, .str "rulewardens.books" 839, none, .ref 569, .none, 0⟩), ⟨[]⟩⟩
def o571 (P : Params) : Obj := ⟨.type "tuple", none, (.seq ⟨[]⟩ 0), ⟨[]⟩⟩
def o572 (P : Params) : Obj := ⟨.none, none, (.fields ⟨[]⟩), ⟨[]⟩⟩
def o573 (P : Params) : Obj := ⟨.none, none, (.func ⟨"open_moves", "open_moves", dArgs (top 81), .stmts (dBody (top 81)), dScope (top 81), 0, [], .none, .none, .none, .none, none, .none, .none, 0⟩), ⟨[]⟩⟩
def o574 (P : Params) : Obj := ⟨.type "code", none, (.fields ⟨[.str "open_moves" 1021, .str "open_moves" 1022, .str "/claim/cut.py" 1023, .int 273 0, .int 3 0, .int 0 0, .int 0 0, .int 3 0, .ref 571, .bool true, .int 181 0, .ref 572, .none, .none, .none, .ref 573, .int 1024 0, .int 273 0, .str "/claim/cut.py" 1025]⟩), ⟨[]⟩⟩
def o575 (P : Params) : Obj := ⟨.type "function", none, (.func ⟨"open_moves", "open_moves", dArgs (top 81), .stmts (dBody (top 81)), dScope (top 81), 3, [], .none, .none, .none, .str "rulewardens.books" 839, none, .ref 574, .none, 0⟩), ⟨[]⟩⟩
def o576 (P : Params) : Obj := ⟨.type "tuple", none, (.seq ⟨[]⟩ 0), ⟨[]⟩⟩
def o577 (P : Params) : Obj := ⟨.none, none, (.fields ⟨[]⟩), ⟨[]⟩⟩
def o578 (P : Params) : Obj := ⟨.none, none, (.func ⟨"moves_by_origin", "moves_by_origin", dArgs (top 82), .stmts (dBody (top 82)), dScope (top 82), 0, [], .none, .none, .none, .none, none, .none, .none, 0⟩), ⟨[]⟩⟩
def o579 (P : Params) : Obj := ⟨.type "code", none, (.fields ⟨[.str "moves_by_origin" 1027, .str "moves_by_origin" 1028, .str "/claim/cut.py" 1029, .int 279 0, .int 3 0, .int 0 0, .int 0 0, .int 3 0, .ref 576, .bool true, .int 181 0, .ref 577, .none, .none, .none, .ref 578, .int 1030 0, .int 279 0, .str "/claim/cut.py" 1031]⟩), ⟨[]⟩⟩
def o580 (P : Params) : Obj := ⟨.type "function", none, (.func ⟨"moves_by_origin", "moves_by_origin", dArgs (top 82), .stmts (dBody (top 82)), dScope (top 82), 3, [], .none, .none, .none, .str "rulewardens.books" 839, none, .ref 579, .none, 0⟩), ⟨[]⟩⟩
def o581 (P : Params) : Obj := ⟨.type "tuple", none, (.seq ⟨[]⟩ 0), ⟨[]⟩⟩
def o582 (P : Params) : Obj := ⟨.none, none, (.fields ⟨[]⟩), ⟨[]⟩⟩
def o583 (P : Params) : Obj := ⟨.none, none, (.func ⟨"has_open_move", "has_open_move", dArgs (top 83), .stmts (dBody (top 83)), dScope (top 83), 0, [], .none, .none, .none, .none, none, .none, .none, 0⟩), ⟨[]⟩⟩
def o584 (P : Params) : Obj := ⟨.type "code", none, (.fields ⟨[.str "has_open_move" 1033, .str "has_open_move" 1034, .str "/claim/cut.py" 1035, .int 283 0, .int 4 0, .int 0 0, .int 0 0, .int 3 0, .ref 581, .bool true, .int 181 0, .ref 582, .none, .none, .none, .ref 583, .int 1036 0, .int 283 0, .str "/claim/cut.py" 1037]⟩), ⟨[]⟩⟩
def o585 (P : Params) : Obj := ⟨.type "function", none, (.func ⟨"has_open_move", "has_open_move", dArgs (top 83), .stmts (dBody (top 83)), dScope (top 83), 3, [], .none, .none, .none, .str "rulewardens.books" 839, none, .ref 584, .none, 0⟩), ⟨[]⟩⟩
def o586 (P : Params) : Obj := ⟨.type "tuple", none, (.seq ⟨[]⟩ 0), ⟨[]⟩⟩
def o587 (P : Params) : Obj := ⟨.none, none, (.fields ⟨[]⟩), ⟨[]⟩⟩
def o588 (P : Params) : Obj := ⟨.none, none, (.func ⟨"some_of", "some_of", dArgs (top 84), .stmts (dBody (top 84)), dScope (top 84), 0, [], .none, .none, .none, .none, none, .none, .none, 0⟩), ⟨[]⟩⟩
def o589 (P : Params) : Obj := ⟨.type "code", none, (.fields ⟨[.str "some_of" 1039, .str "some_of" 1040, .str "/claim/cut.py" 1041, .int 285 0, .int 1 0, .int 0 0, .int 0 0, .int 3 0, .ref 586, .bool true, .int 181 0, .ref 587, .none, .none, .none, .ref 588, .int 1042 0, .int 285 0, .str "/claim/cut.py" 1043]⟩), ⟨[]⟩⟩
def o590 (P : Params) : Obj := ⟨.type "function", none, (.func ⟨"some_of", "some_of", dArgs (top 84), .stmts (dBody (top 84)), dScope (top 84), 3, [], .none, .none, .none, .str "rulewardens.books" 839, none, .ref 589, .none, 0⟩), ⟨[]⟩⟩
def o591 (P : Params) : Obj := ⟨.type "tuple", none, (.seq ⟨[]⟩ 0), ⟨[]⟩⟩
def o592 (P : Params) : Obj := ⟨.none, none, (.fields ⟨[]⟩), ⟨[]⟩⟩
def o593 (P : Params) : Obj := ⟨.none, none, (.func ⟨"choices", "choices", dArgs (top 85), .stmts (dBody (top 85)), dScope (top 85), 0, [], .none, .none, .none, .none, none, .none, .none, 0⟩), ⟨[]⟩⟩
def o594 (P : Params) : Obj := ⟨.type "code", none, (.fields ⟨[.str "choices" 1045, .str "choices" 1046, .str "/claim/cut.py" 1047, .int 290 0, .int 3 0, .int 0 0, .int 0 0, .int 3 0, .ref 591, .bool true, .int 181 0, .ref 592, .none, .none, .none, .ref 593, .int 1048 0, .int 290 0, .str "/claim/cut.py" 1049]⟩), ⟨[]⟩⟩
def o595 (P : Params) : Obj := ⟨.type "function", none, (.func ⟨"choices", "choices", dArgs (top 85), .stmts (dBody (top 85)), dScope (top 85), 3, [], .none, .none, .none, .str "rulewardens.books" 839, none, .ref 594, .none, 0⟩), ⟨[]⟩⟩
def o596 (P : Params) : Obj := ⟨.type "tuple", none, (.seq ⟨[]⟩ 0), ⟨[]⟩⟩
def o597 (P : Params) : Obj := ⟨.none, none, (.fields ⟨[]⟩), ⟨[]⟩⟩
def o598 (P : Params) : Obj := ⟨.none, none, (.func ⟨"heard_of", "heard_of", dArgs (top 86), .stmts (dBody (top 86)), dScope (top 86), 0, [], .none, .none, .none, .none, none, .none, .none, 0⟩), ⟨[]⟩⟩
def o599 (P : Params) : Obj := ⟨.type "code", none, (.fields ⟨[.str "heard_of" 1051, .str "heard_of" 1052, .str "/claim/cut.py" 1053, .int 295 0, .int 2 0, .int 0 0, .int 0 0, .int 3 0, .ref 596, .bool true, .int 181 0, .ref 597, .none, .none, .none, .ref 598, .int 1054 0, .int 295 0, .str "/claim/cut.py" 1055]⟩), ⟨[]⟩⟩
def o600 (P : Params) : Obj := ⟨.type "function", none, (.func ⟨"heard_of", "heard_of", dArgs (top 86), .stmts (dBody (top 86)), dScope (top 86), 3, [], .none, .none, .none, .str "rulewardens.books" 839, none, .ref 599, .none, 0⟩), ⟨[]⟩⟩
def o601 (P : Params) : Obj := ⟨.type "tuple", none, (.seq ⟨[]⟩ 0), ⟨[]⟩⟩
def o602 (P : Params) : Obj := ⟨.none, none, (.fields ⟨[]⟩), ⟨[]⟩⟩
def o603 (P : Params) : Obj := ⟨.none, none, (.func ⟨"where_behind", "where_behind", dArgs (top 87), .stmts (dBody (top 87)), dScope (top 87), 0, [], .none, .none, .none, .none, none, .none, .none, 0⟩), ⟨[]⟩⟩
def o604 (P : Params) : Obj := ⟨.type "code", none, (.fields ⟨[.str "where_behind" 1057, .str "where_behind" 1058, .str "/claim/cut.py" 1059, .int 297 0, .int 4 0, .int 0 0, .int 0 0, .int 3 0, .ref 601, .bool true, .int 181 0, .ref 602, .none, .none, .none, .ref 603, .int 1060 0, .int 297 0, .str "/claim/cut.py" 1061]⟩), ⟨[]⟩⟩
def o605 (P : Params) : Obj := ⟨.type "function", none, (.func ⟨"where_behind", "where_behind", dArgs (top 87), .stmts (dBody (top 87)), dScope (top 87), 3, [], .none, .none, .none, .str "rulewardens.books" 839, none, .ref 604, .none, 0⟩), ⟨[]⟩⟩
def o606 (P : Params) : Obj := ⟨.type "tuple", none, (.seq ⟨[]⟩ 0), ⟨[]⟩⟩
def o607 (P : Params) : Obj := ⟨.none, none, (.fields ⟨[]⟩), ⟨[]⟩⟩
def o608 (P : Params) : Obj := ⟨.type "tuple", none, (.seq ⟨[.str "book" 1066, .str "where" 1067, .str "face" 1068]⟩ 0), ⟨[]⟩⟩
def o609 (P : Params) : Obj := ⟨.type "tuple", none, (.seq ⟨[]⟩ 0), ⟨[]⟩⟩
def o610 (P : Params) : Obj := ⟨.none, none, (.func ⟨"outcomes", "outcomes", dArgs (top 88), .stmts (dBody (top 88)), dScope (top 88), 0, [], .none, .none, .none, .none, none, .none, .none, 0⟩), ⟨[]⟩⟩
def o611 (P : Params) : Obj := ⟨.type "code", none, (.fields ⟨[.str "outcomes" 1063, .str "outcomes" 1064, .str "/claim/cut.py" 1065, .int 300 0, .int 3 0, .int 0 0, .int 0 0, .int 3 0, .ref 606, .bool true, .int 181 0, .ref 607, .none, .ref 608, .ref 609, .ref 610, .int 1069 0, .int 300 0, .str "/claim/cut.py" 1070]⟩), ⟨[]⟩⟩
def o612 (P : Params) : Obj := ⟨.type "function", none, (.func ⟨"outcomes", "outcomes", dArgs (top 88), .stmts (dBody (top 88)), dScope (top 88), 3, [], .none, .none, .none, .str "rulewardens.books" 839, none, .ref 611, .none, 0⟩), ⟨[]⟩⟩
def o613 (P : Params) : Obj := ⟨.type "tuple", none, (.seq ⟨[]⟩ 0), ⟨[]⟩⟩
def o614 (P : Params) : Obj := ⟨.none, none, (.fields ⟨[]⟩), ⟨[]⟩⟩
def o615 (P : Params) : Obj := ⟨.none, none, (.func ⟨"outcomes_found", "outcomes_found", dArgs (top 89), .stmts (dBody (top 89)), dScope (top 89), 0, [], .none, .none, .none, .none, none, .none, .none, 0⟩), ⟨[]⟩⟩
def o616 (P : Params) : Obj := ⟨.type "code", none, (.fields ⟨[.str "outcomes_found" 1072, .str "outcomes_found" 1073, .str "/claim/cut.py" 1074, .int 304 0, .int 3 0, .int 0 0, .int 0 0, .int 3 0, .ref 613, .bool true, .int 181 0, .ref 614, .none, .none, .none, .ref 615, .int 1075 0, .int 304 0, .str "/claim/cut.py" 1076]⟩), ⟨[]⟩⟩
def o617 (P : Params) : Obj := ⟨.type "function", none, (.func ⟨"outcomes_found", "outcomes_found", dArgs (top 89), .stmts (dBody (top 89)), dScope (top 89), 3, [], .none, .none, .none, .str "rulewardens.books" 839, none, .ref 616, .none, 0⟩), ⟨[]⟩⟩
def o618 (P : Params) : Obj := ⟨.type "tuple", none, (.seq ⟨[]⟩ 0), ⟨[]⟩⟩
def o619 (P : Params) : Obj := ⟨.none, none, (.fields ⟨[]⟩), ⟨[]⟩⟩
def o620 (P : Params) : Obj := ⟨.none, none, (.func ⟨"are_faces", "are_faces", dArgs (top 94), .stmts (dBody (top 94)), dScope (top 94), 0, [], .none, .none, .none, .none, none, .none, .none, 0⟩), ⟨[]⟩⟩
def o621 (P : Params) : Obj := ⟨.type "code", none, (.fields ⟨[.str "are_faces" 1086, .str "are_faces" 1087, .str "/claim/cut.py" 1088, .int 316 0, .int 1 0, .int 0 0, .int 0 0, .int 3 0, .ref 618, .bool true, .int 181 0, .ref 619, .none, .none, .none, .ref 620, .int 1089 0, .int 316 0, .str "/claim/cut.py" 1090]⟩), ⟨[]⟩⟩
def o622 (P : Params) : Obj := ⟨.type "function", none, (.func ⟨"are_faces", "are_faces", dArgs (top 94), .stmts (dBody (top 94)), dScope (top 94), 3, [], .none, .none, .none, .str "rulewardens.devices" 1078, none, .ref 621, .none, 0⟩), ⟨[]⟩⟩
def o623 (P : Params) : Obj := ⟨.type "tuple", none, (.seq ⟨[]⟩ 0), ⟨[]⟩⟩
def o624 (P : Params) : Obj := ⟨.none, none, (.fields ⟨[]⟩), ⟨[]⟩⟩
def o625 (P : Params) : Obj := ⟨.none, none, (.func ⟨"is_face", "is_face", dArgs (top 95), .stmts (dBody (top 95)), dScope (top 95), 0, [], .none, .none, .none, .none, none, .none, .none, 0⟩), ⟨[]⟩⟩
def o626 (P : Params) : Obj := ⟨.type "code", none, (.fields ⟨[.str "is_face" 1092, .str "is_face" 1093, .str "/claim/cut.py" 1094, .int 320 0, .int 1 0, .int 0 0, .int 0 0, .int 3 0, .ref 623, .bool true, .int 181 0, .ref 624, .none, .none, .none, .ref 625, .int 1095 0, .int 320 0, .str "/claim/cut.py" 1096]⟩), ⟨[]⟩⟩
def o627 (P : Params) : Obj := ⟨.type "function", none, (.func ⟨"is_face", "is_face", dArgs (top 95), .stmts (dBody (top 95)), dScope (top 95), 3, [], .none, .none, .none, .str "rulewardens.devices" 1078, none, .ref 626, .none, 0⟩), ⟨[]⟩⟩
def o628 (P : Params) : Obj := ⟨.type "tuple", none, (.seq ⟨[]⟩ 0), ⟨[]⟩⟩
def o629 (P : Params) : Obj := ⟨.none, none, (.fields ⟨[]⟩), ⟨[]⟩⟩
def o630 (P : Params) : Obj := ⟨.none, none, (.func ⟨"are_shown", "are_shown", dArgs (top 96), .stmts (dBody (top 96)), dScope (top 96), 0, [], .none, .none, .none, .none, none, .none, .none, 0⟩), ⟨[]⟩⟩
def o631 (P : Params) : Obj := ⟨.type "code", none, (.fields ⟨[.str "are_shown" 1098, .str "are_shown" 1099, .str "/claim/cut.py" 1100, .int 322 0, .int 1 0, .int 0 0, .int 0 0, .int 3 0, .ref 628, .bool true, .int 181 0, .ref 629, .none, .none, .none, .ref 630, .int 1101 0, .int 322 0, .str "/claim/cut.py" 1102]⟩), ⟨[]⟩⟩
def o632 (P : Params) : Obj := ⟨.type "function", none, (.func ⟨"are_shown", "are_shown", dArgs (top 96), .stmts (dBody (top 96)), dScope (top 96), 3, [], .none, .none, .none, .str "rulewardens.devices" 1078, none, .ref 631, .none, 0⟩), ⟨[]⟩⟩
def o633 (P : Params) : Obj := ⟨.type "tuple", none, (.seq ⟨[]⟩ 0), ⟨[]⟩⟩
def o634 (P : Params) : Obj := ⟨.none, none, (.fields ⟨[]⟩), ⟨[]⟩⟩
def o635 (P : Params) : Obj := ⟨.type "tuple", none, (.seq ⟨[.str "many" 1107, .str "thing" 1108, .str "state" 1109, .str "heard" 1110, .str "target" 1111]⟩ 0), ⟨[]⟩⟩
def o636 (P : Params) : Obj := ⟨.type "tuple", none, (.seq ⟨[]⟩ 0), ⟨[]⟩⟩
def o637 (P : Params) : Obj := ⟨.none, none, (.func ⟨"is_step", "is_step", dArgs (top 97), .stmts (dBody (top 97)), dScope (top 97), 0, [], .none, .none, .none, .none, none, .none, .none, 0⟩), ⟨[]⟩⟩
def o638 (P : Params) : Obj := ⟨.type "code", none, (.fields ⟨[.str "is_step" 1104, .str "is_step" 1105, .str "/claim/cut.py" 1106, .int 324 0, .int 2 0, .int 0 0, .int 0 0, .int 3 0, .ref 633, .bool true, .int 181 0, .ref 634, .none, .ref 635, .ref 636, .ref 637, .int 1112 0, .int 324 0, .str "/claim/cut.py" 1113]⟩), ⟨[]⟩⟩
def o639 (P : Params) : Obj := ⟨.type "function", none, (.func ⟨"is_step", "is_step", dArgs (top 97), .stmts (dBody (top 97)), dScope (top 97), 3, [], .none, .none, .none, .str "rulewardens.devices" 1078, none, .ref 638, .none, 0⟩), ⟨[]⟩⟩
def o640 (P : Params) : Obj := ⟨.type "tuple", none, (.seq ⟨[]⟩ 0), ⟨[]⟩⟩
def o641 (P : Params) : Obj := ⟨.none, none, (.fields ⟨[]⟩), ⟨[]⟩⟩
def o642 (P : Params) : Obj := ⟨.type "tuple", none, (.seq ⟨[.str "one" 1118, .str "other" 1119]⟩ 0), ⟨[]⟩⟩
def o643 (P : Params) : Obj := ⟨.type "tuple", none, (.seq ⟨[]⟩ 0), ⟨[]⟩⟩
def o644 (P : Params) : Obj := ⟨.none, none, (.func ⟨"is_later", "is_later", dArgs (top 98), .stmts (dBody (top 98)), dScope (top 98), 0, [], .none, .none, .none, .none, none, .none, .none, 0⟩), ⟨[]⟩⟩
def o645 (P : Params) : Obj := ⟨.type "code", none, (.fields ⟨[.str "is_later" 1115, .str "is_later" 1116, .str "/claim/cut.py" 1117, .int 329 0, .int 2 0, .int 0 0, .int 0 0, .int 3 0, .ref 640, .bool true, .int 181 0, .ref 641, .none, .ref 642, .ref 643, .ref 644, .int 1120 0, .int 329 0, .str "/claim/cut.py" 1121]⟩), ⟨[]⟩⟩
def o646 (P : Params) : Obj := ⟨.type "function", none, (.func ⟨"is_later", "is_later", dArgs (top 98), .stmts (dBody (top 98)), dScope (top 98), 3, [], .none, .none, .none, .str "rulewardens.devices" 1078, none, .ref 645, .none, 0⟩), ⟨[]⟩⟩
def o647 (P : Params) : Obj := ⟨.type "tuple", none, (.seq ⟨[]⟩ 0), ⟨[]⟩⟩
def o648 (P : Params) : Obj := ⟨.none, none, (.fields ⟨[]⟩), ⟨[]⟩⟩
def o649 (P : Params) : Obj := ⟨.none, none, (.func ⟨"are_steps", "are_steps", dArgs (top 99), .stmts (dBody (top 99)), dScope (top 99), 0, [], .none, .none, .none, .none, none, .none, .none, 0⟩), ⟨[]⟩⟩
def o650 (P : Params) : Obj := ⟨.type "code", none, (.fields ⟨[.str "are_steps" 1123, .str "are_steps" 1124, .str "/claim/cut.py" 1125, .int 331 0, .int 2 0, .int 0 0, .int 0 0, .int 3 0, .ref 647, .bool true, .int 181 0, .ref 648, .none, .none, .none, .ref 649, .int 1126 0, .int 331 0, .str "/claim/cut.py" 1127]⟩), ⟨[]⟩⟩
def o651 (P : Params) : Obj := ⟨.type "function", none, (.func ⟨"are_steps", "are_steps", dArgs (top 99), .stmts (dBody (top 99)), dScope (top 99), 3, [], .none, .none, .none, .str "rulewardens.devices" 1078, none, .ref 650, .none, 0⟩), ⟨[]⟩⟩
def o652 (P : Params) : Obj := ⟨.type "tuple", none, (.seq ⟨[]⟩ 0), ⟨[]⟩⟩
def o653 (P : Params) : Obj := ⟨.none, none, (.fields ⟨[]⟩), ⟨[]⟩⟩
def o654 (P : Params) : Obj := ⟨.none, none, (.func ⟨"are_others", "are_others", dArgs (top 100), .stmts (dBody (top 100)), dScope (top 100), 0, [], .none, .none, .none, .none, none, .none, .none, 0⟩), ⟨[]⟩⟩
def o655 (P : Params) : Obj := ⟨.type "code", none, (.fields ⟨[.str "are_others" 1129, .str "are_others" 1130, .str "/claim/cut.py" 1131, .int 335 0, .int 2 0, .int 0 0, .int 0 0, .int 3 0, .ref 652, .bool true, .int 181 0, .ref 653, .none, .none, .none, .ref 654, .int 1132 0, .int 335 0, .str "/claim/cut.py" 1133]⟩), ⟨[]⟩⟩
def o656 (P : Params) : Obj := ⟨.type "function", none, (.func ⟨"are_others", "are_others", dArgs (top 100), .stmts (dBody (top 100)), dScope (top 100), 3, [], .none, .none, .none, .str "rulewardens.devices" 1078, none, .ref 655, .none, 0⟩), ⟨[]⟩⟩
def o657 (P : Params) : Obj := ⟨.type "tuple", none, (.seq ⟨[]⟩ 0), ⟨[]⟩⟩
def o658 (P : Params) : Obj := ⟨.none, none, (.fields ⟨[]⟩), ⟨[]⟩⟩
def o659 (P : Params) : Obj := ⟨.none, none, (.func ⟨"device_lines", "device_lines", dArgs (top 101), .stmts (dBody (top 101)), dScope (top 101), 0, [], .none, .none, .none, .none, none, .none, .none, 0⟩), ⟨[]⟩⟩
def o660 (P : Params) : Obj := ⟨.type "code", none, (.fields ⟨[.str "device_lines" 1135, .str "device_lines" 1136, .str "/claim/cut.py" 1137, .int 337 0, .int 2 0, .int 0 0, .int 0 0, .int 3 0, .ref 657, .bool true, .int 181 0, .ref 658, .none, .none, .none, .ref 659, .int 1138 0, .int 337 0, .str "/claim/cut.py" 1139]⟩), ⟨[]⟩⟩
def o661 (P : Params) : Obj := ⟨.type "function", none, (.func ⟨"device_lines", "device_lines", dArgs (top 101), .stmts (dBody (top 101)), dScope (top 101), 3, [], .none, .none, .none, .str "rulewardens.devices" 1078, none, .ref 660, .none, 0⟩), ⟨[]⟩⟩
def o662 (P : Params) : Obj := ⟨.type "tuple", none, (.seq ⟨[]⟩ 0), ⟨[]⟩⟩
def o663 (P : Params) : Obj := ⟨.type "builtin_function_or_method", none, (.fields ⟨[.builtin "type.__prepare__", .type "type"]⟩), ⟨[]⟩⟩
def o664 (P : Params) : Obj := ⟨.type "dict", none, (.dict ⟨[⟨hs P "__module__", .str "__module__" 1148, .str "rulewardens.devices" 1078⟩, ⟨hs P "__qualname__", .str "__qualname__" 1150, .str "Device" 1149⟩, ⟨hs P "__firstlineno__", .str "__firstlineno__" 1152, .int 356 1151⟩, ⟨hs P "__init__", .str "__init__" 1158, .ref 673⟩, ⟨hs P "read", .str "read" 1181, .ref 682⟩, ⟨hs P "__str__", .str "__str__" 1188, .ref 690⟩, ⟨hs P "__eq__", .str "__eq__" 1196, .ref 697⟩, ⟨hs P "__len__", .str "__len__" 1203, .ref 704⟩, ⟨hs P "led", .str "led" 1212, .ref 711⟩, ⟨hs P "__static_attributes__", .str "__static_attributes__" 1217, .ref 712⟩]⟩ 10), ⟨[]⟩⟩
def o665 (P : Params) : Obj := ⟨.type "tuple", none, (.seq ⟨[]⟩ 0), ⟨[]⟩⟩
def o666 (P : Params) : Obj := ⟨.none, none, (.fields ⟨[.int 358 0, .int 4 0, .ref 672, .int 371 0, .int 4 0, .ref 679, .int 375 0, .int 4 0, .ref 689, .int 378 0, .int 4 0, .ref 696, .int 383 0, .int 4 0, .ref 703, .int 386 0, .int 4 0, .ref 710]⟩), ⟨[]⟩⟩
def o667 (P : Params) : Obj := ⟨.type "code", none, (.fields ⟨[.str "Device" 1143, .str "Device" 1144, .str "/claim/cut.py" 1145, .int 356 0, .int 0 0, .int 0 0, .int 0 0, .int 0 0, .ref 665, .bool false, .int 181 0, .ref 666, .none, .none, .none, .none, .int 1146 0, .int 356 0, .str "/claim/cut.py" 1147]⟩), ⟨[]⟩⟩
def o668 (P : Params) : Obj := ⟨.type "frame", none, .plain, ⟨[(some (.ref 667)), (some (.ref 3)), (some (.ref 664)), none, (some (.str "rulewardens.devices" 1078)), none, (some (.ref 0))]⟩⟩
def o669 (P : Params) : Obj := ⟨.type "tuple", none, (.seq ⟨[]⟩ 0), ⟨[]⟩⟩
def o670 (P : Params) : Obj := ⟨.none, none, (.fields ⟨[]⟩), ⟨[]⟩⟩
def o671 (P : Params) : Obj := ⟨.none, none, (.func ⟨"__init__", "Device.__init__", dArgs (inC (top 102) 0), .stmts (dBody (inC (top 102) 0)), dScope (inC (top 102) 0), 0, [], .none, .none, .none, .none, none, .none, .none, 0⟩), ⟨[]⟩⟩
def o672 (P : Params) : Obj := ⟨.type "code", none, (.fields ⟨[.str "__init__" 1153, .str "Device.__init__" 1154, .str "/claim/cut.py" 1155, .int 358 0, .int 4 0, .int 0 0, .int 0 0, .int 3 0, .ref 669, .bool true, .int 181 0, .ref 670, .none, .none, .none, .ref 671, .int 1156 0, .int 358 0, .str "/claim/cut.py" 1157]⟩), ⟨[]⟩⟩
def o673 (P : Params) : Obj := ⟨.type "function", none, (.func ⟨"__init__", "Device.__init__", dArgs (inC (top 102) 0), .stmts (dBody (inC (top 102) 0)), dScope (inC (top 102) 0), 3, [], .none, .none, .none, .str "rulewardens.devices" 1078, none, .ref 672, .none, 0⟩), ⟨[]⟩⟩
def o674 (P : Params) : Obj := ⟨.type "tuple", none, (.seq ⟨[]⟩ 0), ⟨[]⟩⟩
def o675 (P : Params) : Obj := ⟨.none, none, (.fields ⟨[]⟩), ⟨[]⟩⟩
def o676 (P : Params) : Obj := ⟨.type "tuple", none, (.seq ⟨[.str "cls" 1162, .str "text" 1163, .str "shown" 1164, .str "steps" 1165, .str "others" 1166]⟩ 0), ⟨[]⟩⟩
def o677 (P : Params) : Obj := ⟨.type "tuple", none, (.seq ⟨[]⟩ 0), ⟨[]⟩⟩
def o678 (P : Params) : Obj := ⟨.none, none, (.func ⟨"read", "Device.read", dArgs (inC (top 102) 1), .stmts (dBody (inC (top 102) 1)), dScope (inC (top 102) 1), 0, [], .none, .none, .none, .none, none, .none, .none, 0⟩), ⟨[]⟩⟩
def o679 (P : Params) : Obj := ⟨.type "code", none, (.fields ⟨[.str "read" 1159, .str "Device.read" 1160, .str "/claim/cut.py" 1161, .int 370 0, .int 2 0, .int 0 0, .int 0 0, .int 3 0, .ref 674, .bool true, .int 181 0, .ref 675, .none, .ref 676, .ref 677, .ref 678, .int 1167 0, .int 370 0, .str "/claim/cut.py" 1168]⟩), ⟨[]⟩⟩
def o680 (P : Params) : Obj := ⟨.type "function", none, (.func ⟨"read", "Device.read", dArgs (inC (top 102) 1), .stmts (dBody (inC (top 102) 1)), dScope (inC (top 102) 1), 3, [], .none, .none, .none, .str "rulewardens.devices" 1078, (some 683), .ref 679, .none, 0⟩), ⟨[]⟩⟩
def o681 (P : Params) : Obj := ⟨.type "dict", none, (.dict ⟨[⟨hs P "__module__", .str "__module__" 1170, .str "rulewardens.devices" 1078⟩, ⟨hs P "__name__", .str "__name__" 1173, .str "read" 1172⟩, ⟨hs P "__qualname__", .str "__qualname__" 1176, .str "Device.read" 1175⟩, ⟨hs P "__doc__", .str "__doc__" 1178, .none⟩, ⟨hs P "__annotations__", .str "__annotations__" 1180, .ref 683⟩]⟩ 5), ⟨[]⟩⟩
def o682 (P : Params) : Obj := ⟨.type "classmethod", (some 681), (.fields ⟨[.ref 680, .bool false]⟩), ⟨[]⟩⟩
def o683 (P : Params) : Obj := ⟨.type "dict", none, (.dict ⟨[]⟩ 0), ⟨[]⟩⟩
def o684 (P : Params) : Obj := ⟨.type "tuple", none, (.seq ⟨[]⟩ 0), ⟨[]⟩⟩
def o685 (P : Params) : Obj := ⟨.none, none, (.fields ⟨[]⟩), ⟨[]⟩⟩
def o686 (P : Params) : Obj := ⟨.type "tuple", none, (.seq ⟨[.str "self" 1185]⟩ 0), ⟨[]⟩⟩
def o687 (P : Params) : Obj := ⟨.type "tuple", none, (.seq ⟨[]⟩ 0), ⟨[]⟩⟩
def o688 (P : Params) : Obj := ⟨.none, none, (.func ⟨"__str__", "Device.__str__", dArgs (inC (top 102) 2), .stmts (dBody (inC (top 102) 2)), dScope (inC (top 102) 2), 0, [], .none, .none, .none, .none, none, .none, .none, 0⟩), ⟨[]⟩⟩
def o689 (P : Params) : Obj := ⟨.type "code", none, (.fields ⟨[.str "__str__" 1182, .str "Device.__str__" 1183, .str "/claim/cut.py" 1184, .int 375 0, .int 1 0, .int 0 0, .int 0 0, .int 3 0, .ref 684, .bool true, .int 181 0, .ref 685, .none, .ref 686, .ref 687, .ref 688, .int 1186 0, .int 375 0, .str "/claim/cut.py" 1187]⟩), ⟨[]⟩⟩
def o690 (P : Params) : Obj := ⟨.type "function", none, (.func ⟨"__str__", "Device.__str__", dArgs (inC (top 102) 2), .stmts (dBody (inC (top 102) 2)), dScope (inC (top 102) 2), 3, [], .none, .none, .none, .str "rulewardens.devices" 1078, none, .ref 689, .none, 0⟩), ⟨[]⟩⟩
def o691 (P : Params) : Obj := ⟨.type "tuple", none, (.seq ⟨[]⟩ 0), ⟨[]⟩⟩
def o692 (P : Params) : Obj := ⟨.none, none, (.fields ⟨[]⟩), ⟨[]⟩⟩
def o693 (P : Params) : Obj := ⟨.type "tuple", none, (.seq ⟨[.str "self" 1192, .str "other" 1193]⟩ 0), ⟨[]⟩⟩
def o694 (P : Params) : Obj := ⟨.type "tuple", none, (.seq ⟨[]⟩ 0), ⟨[]⟩⟩
def o695 (P : Params) : Obj := ⟨.none, none, (.func ⟨"__eq__", "Device.__eq__", dArgs (inC (top 102) 3), .stmts (dBody (inC (top 102) 3)), dScope (inC (top 102) 3), 0, [], .none, .none, .none, .none, none, .none, .none, 0⟩), ⟨[]⟩⟩
def o696 (P : Params) : Obj := ⟨.type "code", none, (.fields ⟨[.str "__eq__" 1189, .str "Device.__eq__" 1190, .str "/claim/cut.py" 1191, .int 378 0, .int 2 0, .int 0 0, .int 0 0, .int 3 0, .ref 691, .bool true, .int 181 0, .ref 692, .none, .ref 693, .ref 694, .ref 695, .int 1194 0, .int 378 0, .str "/claim/cut.py" 1195]⟩), ⟨[]⟩⟩
def o697 (P : Params) : Obj := ⟨.type "function", none, (.func ⟨"__eq__", "Device.__eq__", dArgs (inC (top 102) 3), .stmts (dBody (inC (top 102) 3)), dScope (inC (top 102) 3), 3, [], .none, .none, .none, .str "rulewardens.devices" 1078, none, .ref 696, .none, 0⟩), ⟨[]⟩⟩
def o698 (P : Params) : Obj := ⟨.type "tuple", none, (.seq ⟨[]⟩ 0), ⟨[]⟩⟩
def o699 (P : Params) : Obj := ⟨.none, none, (.fields ⟨[]⟩), ⟨[]⟩⟩
def o700 (P : Params) : Obj := ⟨.type "tuple", none, (.seq ⟨[.str "self" 1200]⟩ 0), ⟨[]⟩⟩
def o701 (P : Params) : Obj := ⟨.type "tuple", none, (.seq ⟨[]⟩ 0), ⟨[]⟩⟩
def o702 (P : Params) : Obj := ⟨.none, none, (.func ⟨"__len__", "Device.__len__", dArgs (inC (top 102) 4), .stmts (dBody (inC (top 102) 4)), dScope (inC (top 102) 4), 0, [], .none, .none, .none, .none, none, .none, .none, 0⟩), ⟨[]⟩⟩
def o703 (P : Params) : Obj := ⟨.type "code", none, (.fields ⟨[.str "__len__" 1197, .str "Device.__len__" 1198, .str "/claim/cut.py" 1199, .int 383 0, .int 1 0, .int 0 0, .int 0 0, .int 3 0, .ref 698, .bool true, .int 181 0, .ref 699, .none, .ref 700, .ref 701, .ref 702, .int 1201 0, .int 383 0, .str "/claim/cut.py" 1202]⟩), ⟨[]⟩⟩
def o704 (P : Params) : Obj := ⟨.type "function", none, (.func ⟨"__len__", "Device.__len__", dArgs (inC (top 102) 4), .stmts (dBody (inC (top 102) 4)), dScope (inC (top 102) 4), 3, [], .none, .none, .none, .str "rulewardens.devices" 1078, none, .ref 703, .none, 0⟩), ⟨[]⟩⟩
def o705 (P : Params) : Obj := ⟨.type "tuple", none, (.seq ⟨[]⟩ 0), ⟨[]⟩⟩
def o706 (P : Params) : Obj := ⟨.none, none, (.fields ⟨[]⟩), ⟨[]⟩⟩
def o707 (P : Params) : Obj := ⟨.type "tuple", none, (.seq ⟨[.str "self" 1207, .str "state" 1208, .str "heard" 1209]⟩ 0), ⟨[]⟩⟩
def o708 (P : Params) : Obj := ⟨.type "tuple", none, (.seq ⟨[]⟩ 0), ⟨[]⟩⟩
def o709 (P : Params) : Obj := ⟨.none, none, (.func ⟨"led", "Device.led", dArgs (inC (top 102) 5), .stmts (dBody (inC (top 102) 5)), dScope (inC (top 102) 5), 0, [], .none, .none, .none, .none, none, .none, .none, 0⟩), ⟨[]⟩⟩
def o710 (P : Params) : Obj := ⟨.type "code", none, (.fields ⟨[.str "led" 1204, .str "Device.led" 1205, .str "/claim/cut.py" 1206, .int 386 0, .int 3 0, .int 0 0, .int 0 0, .int 3 0, .ref 705, .bool true, .int 181 0, .ref 706, .none, .ref 707, .ref 708, .ref 709, .int 1210 0, .int 386 0, .str "/claim/cut.py" 1211]⟩), ⟨[]⟩⟩
def o711 (P : Params) : Obj := ⟨.type "function", none, (.func ⟨"led", "Device.led", dArgs (inC (top 102) 5), .stmts (dBody (inC (top 102) 5)), dScope (inC (top 102) 5), 3, [], .none, .none, .none, .str "rulewardens.devices" 1078, none, .ref 710, .none, 0⟩), ⟨[]⟩⟩
def o712 (P : Params) : Obj := ⟨.type "tuple", none, (.seq ⟨[.str "others" 1213, .str "shown" 1214, .str "steps" 1215, .str "targets" 1216]⟩ 0), ⟨[]⟩⟩
def o713 (P : Params) : Obj := ⟨.type "dict", none, (.dict ⟨[⟨hs P "__module__", .str "__module__" 1148, .str "rulewardens.devices" 1078⟩, ⟨hs P "__firstlineno__", .str "__firstlineno__" 1152, .int 356 1151⟩, ⟨hs P "__init__", .str "__init__" 1158, .ref 673⟩, ⟨hs P "read", .str "read" 1181, .ref 682⟩, ⟨hs P "__str__", .str "__str__" 1188, .ref 690⟩, ⟨hs P "__eq__", .str "__eq__" 1196, .ref 697⟩, ⟨hs P "__len__", .str "__len__" 1203, .ref 704⟩, ⟨hs P "led", .str "led" 1212, .ref 711⟩, ⟨hs P "__static_attributes__", .str "__static_attributes__" 1217, .ref 712⟩, ⟨hs P "__dict__", .str "__dict__" 1219, .ref 715⟩, ⟨hs P "__weakref__", .str "__weakref__" 1221, .ref 716⟩, ⟨hs P "__doc__", .str "__doc__" 1222, .none⟩, ⟨hs P "__hash__", .str "__hash__" 1223, .none⟩]⟩ 5), ⟨[]⟩⟩
def o714 (P : Params) : Obj := ⟨.type "type", none, (.cls ⟨"Device", [.type "object"], [.ref 714, .type "object"], 713, "Device", true, [], [], false, none, false⟩), ⟨[none, none, (some (.str "Device" 1141)), (some (.str "Device" 1149)), (some (.builtin "object.__new__")), (some (.bool true))]⟩⟩
def o715 (P : Params) : Obj := ⟨.type "getset_descriptor", none, (.fields ⟨[.str "__dict__" 1218, .ref 714, .builtin "function.__dict__", .builtin "function.__dict__#set"]⟩), ⟨[]⟩⟩
def o716 (P : Params) : Obj := ⟨.type "getset_descriptor", none, (.fields ⟨[.str "__weakref__" 1220, .ref 714, .builtin "ExceptionGroup.__weakref__", .none]⟩), ⟨[]⟩⟩
def o717 (P : Params) : Obj := ⟨.type "super", none, (.fields ⟨[.ref 714, .ref 714, .ref 714]⟩), ⟨[]⟩⟩
def o718 (P : Params) : Obj := ⟨.type "builtin_function_or_method", none, (.fields ⟨[.builtin "object.__init_subclass__", .ref 714]⟩), ⟨[]⟩⟩
def o719 (P : Params) : Obj := ⟨.type "tuple", none, (.seq ⟨[]⟩ 0), ⟨[]⟩⟩
def o720 (P : Params) : Obj := ⟨.none, none, (.fields ⟨[]⟩), ⟨[]⟩⟩
def o721 (P : Params) : Obj := ⟨.type "tuple", none, (.seq ⟨[.str "faces" 1229, .str "device" 1230, .str "state" 1231, .str "here" 1232, .str "many" 1233]⟩ 0), ⟨[]⟩⟩
def o722 (P : Params) : Obj := ⟨.type "tuple", none, (.seq ⟨[]⟩ 0), ⟨[]⟩⟩
def o723 (P : Params) : Obj := ⟨.none, none, (.func ⟨"silent_ticks", "silent_ticks", dArgs (top 103), .stmts (dBody (top 103)), dScope (top 103), 0, [], .none, .none, .none, .none, none, .none, .none, 0⟩), ⟨[]⟩⟩
def o724 (P : Params) : Obj := ⟨.type "code", none, (.fields ⟨[.str "silent_ticks" 1226, .str "silent_ticks" 1227, .str "/claim/cut.py" 1228, .int 388 0, .int 3 0, .int 0 0, .int 0 0, .int 3 0, .ref 719, .bool true, .int 181 0, .ref 720, .none, .ref 721, .ref 722, .ref 723, .int 1234 0, .int 388 0, .str "/claim/cut.py" 1235]⟩), ⟨[]⟩⟩
def o725 (P : Params) : Obj := ⟨.type "function", none, (.func ⟨"silent_ticks", "silent_ticks", dArgs (top 103), .stmts (dBody (top 103)), dScope (top 103), 3, [], .none, .none, .none, .str "rulewardens.devices" 1078, none, .ref 724, .none, 0⟩), ⟨[]⟩⟩
def o726 (P : Params) : Obj := ⟨.type "tuple", none, (.seq ⟨[]⟩ 0), ⟨[]⟩⟩
def o727 (P : Params) : Obj := ⟨.none, none, (.fields ⟨[]⟩), ⟨[]⟩⟩
def o728 (P : Params) : Obj := ⟨.type "tuple", none, (.seq ⟨[.str "book" 1242]⟩ 0), ⟨[]⟩⟩
def o729 (P : Params) : Obj := ⟨.type "tuple", none, (.seq ⟨[]⟩ 0), ⟨[]⟩⟩
def o730 (P : Params) : Obj := ⟨.none, none, (.func ⟨"first_lot", "first_lot", dArgs (top 105), .stmts (dBody (top 105)), dScope (top 105), 0, [], .none, .none, .none, .none, none, .none, .none, 0⟩), ⟨[]⟩⟩
def o731 (P : Params) : Obj := ⟨.type "code", none, (.fields ⟨[.str "first_lot" 1239, .str "first_lot" 1240, .str "/claim/cut.py" 1241, .int 396 0, .int 1 0, .int 0 0, .int 0 0, .int 3 0, .ref 726, .bool true, .int 181 0, .ref 727, .none, .ref 728, .ref 729, .ref 730, .int 1243 0, .int 396 0, .str "/claim/cut.py" 1244]⟩), ⟨[]⟩⟩
def o732 (P : Params) : Obj := ⟨.type "function", none, (.func ⟨"first_lot", "first_lot", dArgs (top 105), .stmts (dBody (top 105)), dScope (top 105), 3, [], .none, .none, .none, .str "rulewardens.lots" 1237, none, .ref 731, .none, 0⟩), ⟨[]⟩⟩
def o733 (P : Params) : Obj := ⟨.type "tuple", none, (.seq ⟨[]⟩ 0), ⟨[]⟩⟩
def o734 (P : Params) : Obj := ⟨.none, none, (.fields ⟨[]⟩), ⟨[]⟩⟩
def o735 (P : Params) : Obj := ⟨.none, none, (.func ⟨"answers", "answers", dArgs (top 106), .stmts (dBody (top 106)), dScope (top 106), 0, [], .none, .none, .none, .none, none, .none, .none, 0⟩), ⟨[]⟩⟩
def o736 (P : Params) : Obj := ⟨.type "code", none, (.fields ⟨[.str "answers" 1246, .str "answers" 1247, .str "/claim/cut.py" 1248, .int 398 0, .int 3 0, .int 0 0, .int 0 0, .int 3 0, .ref 733, .bool true, .int 181 0, .ref 734, .none, .none, .none, .ref 735, .int 1249 0, .int 398 0, .str "/claim/cut.py" 1250]⟩), ⟨[]⟩⟩
def o737 (P : Params) : Obj := ⟨.type "function", none, (.func ⟨"answers", "answers", dArgs (top 106), .stmts (dBody (top 106)), dScope (top 106), 3, [], .none, .none, .none, .str "rulewardens.lots" 1237, none, .ref 736, .none, 0⟩), ⟨[]⟩⟩
def o738 (P : Params) : Obj := ⟨.type "tuple", none, (.seq ⟨[]⟩ 0), ⟨[]⟩⟩
def o739 (P : Params) : Obj := ⟨.none, none, (.fields ⟨[]⟩), ⟨[]⟩⟩
def o740 (P : Params) : Obj := ⟨.type "tuple", none, (.seq ⟨[.str "book" 1255, .str "lot" 1256, .str "face" 1257, .str "heard" 1258, .str "other" 1259, .str "further" 1260]⟩ 0), ⟨[]⟩⟩
def o741 (P : Params) : Obj := ⟨.type "tuple", none, (.seq ⟨[]⟩ 0), ⟨[]⟩⟩
def o742 (P : Params) : Obj := ⟨.none, none, (.func ⟨"lot_after", "lot_after", dArgs (top 107), .stmts (dBody (top 107)), dScope (top 107), 0, [], .none, .none, .none, .none, none, .none, .none, 0⟩), ⟨[]⟩⟩
def o743 (P : Params) : Obj := ⟨.type "code", none, (.fields ⟨[.str "lot_after" 1252, .str "lot_after" 1253, .str "/claim/cut.py" 1254, .int 404 0, .int 4 0, .int 0 0, .int 0 0, .int 3 0, .ref 738, .bool true, .int 181 0, .ref 739, .none, .ref 740, .ref 741, .ref 742, .int 1261 0, .int 404 0, .str "/claim/cut.py" 1262]⟩), ⟨[]⟩⟩
def o744 (P : Params) : Obj := ⟨.type "function", none, (.func ⟨"lot_after", "lot_after", dArgs (top 107), .stmts (dBody (top 107)), dScope (top 107), 3, [], .none, .none, .none, .str "rulewardens.lots" 1237, none, .ref 743, .none, 0⟩), ⟨[]⟩⟩
def o745 (P : Params) : Obj := ⟨.type "tuple", none, (.seq ⟨[]⟩ 0), ⟨[]⟩⟩
def o746 (P : Params) : Obj := ⟨.none, none, (.fields ⟨[]⟩), ⟨[]⟩⟩
def o747 (P : Params) : Obj := ⟨.type "tuple", none, (.seq ⟨[.str "ward" 1267, .str "log" 1268, .str "state" 1269, .str "found" 1270, .str "heard" 1271]⟩ 0), ⟨[]⟩⟩
def o748 (P : Params) : Obj := ⟨.type "tuple", none, (.seq ⟨[]⟩ 0), ⟨[]⟩⟩
def o749 (P : Params) : Obj := ⟨.none, none, (.func ⟨"lots_along", "lots_along", dArgs (top 108), .stmts (dBody (top 108)), dScope (top 108), 0, [], .none, .none, .none, .none, none, .none, .none, 0⟩), ⟨[]⟩⟩
def o750 (P : Params) : Obj := ⟨.type "code", none, (.fields ⟨[.str "lots_along" 1264, .str "lots_along" 1265, .str "/claim/cut.py" 1266, .int 409 0, .int 2 0, .int 0 0, .int 0 0, .int 3 0, .ref 745, .bool true, .int 181 0, .ref 746, .none, .ref 747, .ref 748, .ref 749, .int 1272 0, .int 409 0, .str "/claim/cut.py" 1273]⟩), ⟨[]⟩⟩
def o751 (P : Params) : Obj := ⟨.type "function", none, (.func ⟨"lots_along", "lots_along", dArgs (top 108), .stmts (dBody (top 108)), dScope (top 108), 3, [], .none, .none, .none, .str "rulewardens.lots" 1237, none, .ref 750, .none, 0⟩), ⟨[]⟩⟩
def o752 (P : Params) : Obj := ⟨.type "tuple", none, (.seq ⟨[]⟩ 0), ⟨[]⟩⟩
def o753 (P : Params) : Obj := ⟨.none, none, (.fields ⟨[]⟩), ⟨[]⟩⟩
def o754 (P : Params) : Obj := ⟨.type "tuple", none, (.seq ⟨[.str "ward" 1278, .str "log" 1279]⟩ 0), ⟨[]⟩⟩
def o755 (P : Params) : Obj := ⟨.type "tuple", none, (.seq ⟨[]⟩ 0), ⟨[]⟩⟩
def o756 (P : Params) : Obj := ⟨.none, none, (.func ⟨"lot_behind", "lot_behind", dArgs (top 109), .stmts (dBody (top 109)), dScope (top 109), 0, [], .none, .none, .none, .none, none, .none, .none, 0⟩), ⟨[]⟩⟩
def o757 (P : Params) : Obj := ⟨.type "code", none, (.fields ⟨[.str "lot_behind" 1275, .str "lot_behind" 1276, .str "/claim/cut.py" 1277, .int 415 0, .int 2 0, .int 0 0, .int 0 0, .int 3 0, .ref 752, .bool true, .int 181 0, .ref 753, .none, .ref 754, .ref 755, .ref 756, .int 1280 0, .int 415 0, .str "/claim/cut.py" 1281]⟩), ⟨[]⟩⟩
def o758 (P : Params) : Obj := ⟨.type "function", none, (.func ⟨"lot_behind", "lot_behind", dArgs (top 109), .stmts (dBody (top 109)), dScope (top 109), 3, [], .none, .none, .none, .str "rulewardens.lots" 1237, none, .ref 757, .none, 0⟩), ⟨[]⟩⟩
def o759 (P : Params) : Obj := ⟨.type "tuple", none, (.seq ⟨[]⟩ 0), ⟨[]⟩⟩
def o760 (P : Params) : Obj := ⟨.none, none, (.fields ⟨[]⟩), ⟨[]⟩⟩
def o761 (P : Params) : Obj := ⟨.none, none, (.func ⟨"cut_heard", "cut_heard", dArgs (top 111), .stmts (dBody (top 111)), dScope (top 111), 0, [], .none, .none, .none, .none, none, .none, .none, 0⟩), ⟨[]⟩⟩
def o762 (P : Params) : Obj := ⟨.type "code", none, (.fields ⟨[.str "cut_heard" 1285, .str "cut_heard" 1286, .str "/claim/cut.py" 1287, .int 418 0, .int 2 0, .int 0 0, .int 0 0, .int 3 0, .ref 759, .bool true, .int 181 0, .ref 760, .none, .none, .none, .ref 761, .int 1288 0, .int 418 0, .str "/claim/cut.py" 1289]⟩), ⟨[]⟩⟩
def o763 (P : Params) : Obj := ⟨.type "function", none, (.func ⟨"cut_heard", "cut_heard", dArgs (top 111), .stmts (dBody (top 111)), dScope (top 111), 3, [], .none, .none, .none, .str "rulewardens.cuts" 1283, none, .ref 762, .none, 0⟩), ⟨[]⟩⟩
def o764 (P : Params) : Obj := ⟨.type "tuple", none, (.seq ⟨[]⟩ 0), ⟨[]⟩⟩
def o765 (P : Params) : Obj := ⟨.none, none, (.fields ⟨[]⟩), ⟨[]⟩⟩
def o766 (P : Params) : Obj := ⟨.none, none, (.func ⟨"answers_by_ears", "answers_by_ears", dArgs (top 112), .stmts (dBody (top 112)), dScope (top 112), 0, [], .none, .none, .none, .none, none, .none, .none, 0⟩), ⟨[]⟩⟩
def o767 (P : Params) : Obj := ⟨.type "code", none, (.fields ⟨[.str "answers_by_ears" 1291, .str "answers_by_ears" 1292, .str "/claim/cut.py" 1293, .int 420 0, .int 4 0, .int 0 0, .int 0 0, .int 3 0, .ref 764, .bool true, .int 181 0, .ref 765, .none, .none, .none, .ref 766, .int 1294 0, .int 420 0, .str "/claim/cut.py" 1295]⟩), ⟨[]⟩⟩
def o768 (P : Params) : Obj := ⟨.type "function", none, (.func ⟨"answers_by_ears", "answers_by_ears", dArgs (top 112), .stmts (dBody (top 112)), dScope (top 112), 3, [], .none, .none, .none, .str "rulewardens.cuts" 1283, none, .ref 767, .none, 0⟩), ⟨[]⟩⟩
def o769 (P : Params) : Obj := ⟨.type "tuple", none, (.seq ⟨[]⟩ 0), ⟨[]⟩⟩
def o770 (P : Params) : Obj := ⟨.none, none, (.fields ⟨[]⟩), ⟨[]⟩⟩
def o771 (P : Params) : Obj := ⟨.type "tuple", none, (.seq ⟨[.str "lines" 1312, .str "start" 1313, .str "end" 1314, .str "found" 1315, .str "number" 1316, .str "face" 1317]⟩ 0), ⟨[]⟩⟩
def o772 (P : Params) : Obj := ⟨.type "tuple", none, (.seq ⟨[]⟩ 0), ⟨[]⟩⟩
def o773 (P : Params) : Obj := ⟨.none, none, (.func ⟨"faces_told", "faces_told", dArgs (top 119), .stmts (dBody (top 119)), dScope (top 119), 0, [], .none, .none, .none, .none, none, .none, .none, 0⟩), ⟨[]⟩⟩
def o774 (P : Params) : Obj := ⟨.type "code", none, (.fields ⟨[.str "faces_told" 1309, .str "faces_told" 1310, .str "/claim/cut.py" 1311, .int 431 0, .int 2 0, .int 0 0, .int 0 0, .int 3 0, .ref 769, .bool true, .int 181 0, .ref 770, .none, .ref 771, .ref 772, .ref 773, .int 1318 0, .int 431 0, .str "/claim/cut.py" 1319]⟩), ⟨[]⟩⟩
def o775 (P : Params) : Obj := ⟨.type "function", none, (.func ⟨"faces_told", "faces_told", dArgs (top 119), .stmts (dBody (top 119)), dScope (top 119), 3, [], .none, .none, .none, .str "rulewardens.wards" 1297, none, .ref 774, .none, 0⟩), ⟨[]⟩⟩
def o776 (P : Params) : Obj := ⟨.type "tuple", none, (.seq ⟨[]⟩ 0), ⟨[]⟩⟩
def o777 (P : Params) : Obj := ⟨.type "builtin_function_or_method", none, (.fields ⟨[.builtin "type.__prepare__", .type "type"]⟩), ⟨[]⟩⟩
def o778 (P : Params) : Obj := ⟨.type "dict", none, (.dict ⟨[⟨hs P "__module__", .str "__module__" 1328, .str "rulewardens.wards" 1297⟩, ⟨hs P "__qualname__", .str "__qualname__" 1330, .str "Ward" 1329⟩, ⟨hs P "__firstlineno__", .str "__firstlineno__" 1332, .int 442 1331⟩, ⟨hs P "__init__", .str "__init__" 1338, .ref 787⟩, ⟨hs P "read", .str "read" 1368, .ref 796⟩, ⟨hs P "__str__", .str "__str__" 1376, .ref 804⟩, ⟨hs P "__eq__", .str "__eq__" 1384, .ref 811⟩, ⟨hs P "__static_attributes__", .str "__static_attributes__" 1388, .ref 812⟩]⟩ 8), ⟨[]⟩⟩
def o779 (P : Params) : Obj := ⟨.type "tuple", none, (.seq ⟨[]⟩ 0), ⟨[]⟩⟩
def o780 (P : Params) : Obj := ⟨.none, none, (.fields ⟨[.int 444 0, .int 4 0, .ref 786, .int 454 0, .int 4 0, .ref 793, .int 461 0, .int 4 0, .ref 803, .int 465 0, .int 4 0, .ref 810]⟩), ⟨[]⟩⟩
def o781 (P : Params) : Obj := ⟨.type "code", none, (.fields ⟨[.str "Ward" 1323, .str "Ward" 1324, .str "/claim/cut.py" 1325, .int 442 0, .int 0 0, .int 0 0, .int 0 0, .int 0 0, .ref 779, .bool false, .int 181 0, .ref 780, .none, .none, .none, .none, .int 1326 0, .int 442 0, .str "/claim/cut.py" 1327]⟩), ⟨[]⟩⟩
def o782 (P : Params) : Obj := ⟨.type "frame", none, .plain, ⟨[(some (.ref 781)), (some (.ref 3)), (some (.ref 778)), none, (some (.str "rulewardens.wards" 1297)), none, (some (.ref 0))]⟩⟩
def o783 (P : Params) : Obj := ⟨.type "tuple", none, (.seq ⟨[]⟩ 0), ⟨[]⟩⟩
def o784 (P : Params) : Obj := ⟨.none, none, (.fields ⟨[]⟩), ⟨[]⟩⟩
def o785 (P : Params) : Obj := ⟨.none, none, (.func ⟨"__init__", "Ward.__init__", dArgs (inC (top 120) 0), .stmts (dBody (inC (top 120) 0)), dScope (inC (top 120) 0), 0, [], .none, .none, .none, .none, none, .none, .none, 0⟩), ⟨[]⟩⟩
def o786 (P : Params) : Obj := ⟨.type "code", none, (.fields ⟨[.str "__init__" 1333, .str "Ward.__init__" 1334, .str "/claim/cut.py" 1335, .int 444 0, .int 4 0, .int 0 0, .int 0 0, .int 3 0, .ref 783, .bool true, .int 181 0, .ref 784, .none, .none, .none, .ref 785, .int 1336 0, .int 444 0, .str "/claim/cut.py" 1337]⟩), ⟨[]⟩⟩
def o787 (P : Params) : Obj := ⟨.type "function", none, (.func ⟨"__init__", "Ward.__init__", dArgs (inC (top 120) 0), .stmts (dBody (inC (top 120) 0)), dScope (inC (top 120) 0), 3, [], .none, .none, .none, .str "rulewardens.wards" 1297, none, .ref 786, .none, 0⟩), ⟨[]⟩⟩
def o788 (P : Params) : Obj := ⟨.type "tuple", none, (.seq ⟨[]⟩ 0), ⟨[]⟩⟩
def o789 (P : Params) : Obj := ⟨.none, none, (.fields ⟨[]⟩), ⟨[]⟩⟩
def o790 (P : Params) : Obj := ⟨.type "tuple", none, (.seq ⟨[.str "cls" 1342, .str "text" 1343, .str "lines" 1344, .str "rooms" 1345, .str "moves" 1346, .str "first" 1347, .str "end" 1348, .str "faces" 1349, .str "last" 1350, .str "shown" 1351, .str "steps" 1352, .str "others" 1353]⟩ 0), ⟨[]⟩⟩
def o791 (P : Params) : Obj := ⟨.type "tuple", none, (.seq ⟨[]⟩ 0), ⟨[]⟩⟩
def o792 (P : Params) : Obj := ⟨.none, none, (.func ⟨"read", "Ward.read", dArgs (inC (top 120) 1), .stmts (dBody (inC (top 120) 1)), dScope (inC (top 120) 1), 0, [], .none, .none, .none, .none, none, .none, .none, 0⟩), ⟨[]⟩⟩
def o793 (P : Params) : Obj := ⟨.type "code", none, (.fields ⟨[.str "read" 1339, .str "Ward.read" 1340, .str "/claim/cut.py" 1341, .int 453 0, .int 2 0, .int 0 0, .int 0 0, .int 3 0, .ref 788, .bool true, .int 181 0, .ref 789, .none, .ref 790, .ref 791, .ref 792, .int 1354 0, .int 453 0, .str "/claim/cut.py" 1355]⟩), ⟨[]⟩⟩
def o794 (P : Params) : Obj := ⟨.type "function", none, (.func ⟨"read", "Ward.read", dArgs (inC (top 120) 1), .stmts (dBody (inC (top 120) 1)), dScope (inC (top 120) 1), 3, [], .none, .none, .none, .str "rulewardens.wards" 1297, (some 797), .ref 793, .none, 0⟩), ⟨[]⟩⟩
def o795 (P : Params) : Obj := ⟨.type "dict", none, (.dict ⟨[⟨hs P "__module__", .str "__module__" 1357, .str "rulewardens.wards" 1297⟩, ⟨hs P "__name__", .str "__name__" 1360, .str "read" 1359⟩, ⟨hs P "__qualname__", .str "__qualname__" 1363, .str "Ward.read" 1362⟩, ⟨hs P "__doc__", .str "__doc__" 1365, .none⟩, ⟨hs P "__annotations__", .str "__annotations__" 1367, .ref 797⟩]⟩ 5), ⟨[]⟩⟩
def o796 (P : Params) : Obj := ⟨.type "classmethod", (some 795), (.fields ⟨[.ref 794, .bool false]⟩), ⟨[]⟩⟩
def o797 (P : Params) : Obj := ⟨.type "dict", none, (.dict ⟨[]⟩ 0), ⟨[]⟩⟩
def o798 (P : Params) : Obj := ⟨.type "tuple", none, (.seq ⟨[]⟩ 0), ⟨[]⟩⟩
def o799 (P : Params) : Obj := ⟨.none, none, (.fields ⟨[]⟩), ⟨[]⟩⟩
def o800 (P : Params) : Obj := ⟨.type "tuple", none, (.seq ⟨[.str "self" 1372, .str "lines" 1373]⟩ 0), ⟨[]⟩⟩
def o801 (P : Params) : Obj := ⟨.type "tuple", none, (.seq ⟨[]⟩ 0), ⟨[]⟩⟩
def o802 (P : Params) : Obj := ⟨.none, none, (.func ⟨"__str__", "Ward.__str__", dArgs (inC (top 120) 2), .stmts (dBody (inC (top 120) 2)), dScope (inC (top 120) 2), 0, [], .none, .none, .none, .none, none, .none, .none, 0⟩), ⟨[]⟩⟩
def o803 (P : Params) : Obj := ⟨.type "code", none, (.fields ⟨[.str "__str__" 1369, .str "Ward.__str__" 1370, .str "/claim/cut.py" 1371, .int 461 0, .int 1 0, .int 0 0, .int 0 0, .int 3 0, .ref 798, .bool true, .int 181 0, .ref 799, .none, .ref 800, .ref 801, .ref 802, .int 1374 0, .int 461 0, .str "/claim/cut.py" 1375]⟩), ⟨[]⟩⟩
def o804 (P : Params) : Obj := ⟨.type "function", none, (.func ⟨"__str__", "Ward.__str__", dArgs (inC (top 120) 2), .stmts (dBody (inC (top 120) 2)), dScope (inC (top 120) 2), 3, [], .none, .none, .none, .str "rulewardens.wards" 1297, none, .ref 803, .none, 0⟩), ⟨[]⟩⟩
def o805 (P : Params) : Obj := ⟨.type "tuple", none, (.seq ⟨[]⟩ 0), ⟨[]⟩⟩
def o806 (P : Params) : Obj := ⟨.none, none, (.fields ⟨[]⟩), ⟨[]⟩⟩
def o807 (P : Params) : Obj := ⟨.type "tuple", none, (.seq ⟨[.str "self" 1380, .str "other" 1381]⟩ 0), ⟨[]⟩⟩
def o808 (P : Params) : Obj := ⟨.type "tuple", none, (.seq ⟨[]⟩ 0), ⟨[]⟩⟩
def o809 (P : Params) : Obj := ⟨.none, none, (.func ⟨"__eq__", "Ward.__eq__", dArgs (inC (top 120) 3), .stmts (dBody (inC (top 120) 3)), dScope (inC (top 120) 3), 0, [], .none, .none, .none, .none, none, .none, .none, 0⟩), ⟨[]⟩⟩
def o810 (P : Params) : Obj := ⟨.type "code", none, (.fields ⟨[.str "__eq__" 1377, .str "Ward.__eq__" 1378, .str "/claim/cut.py" 1379, .int 465 0, .int 2 0, .int 0 0, .int 0 0, .int 3 0, .ref 805, .bool true, .int 181 0, .ref 806, .none, .ref 807, .ref 808, .ref 809, .int 1382 0, .int 465 0, .str "/claim/cut.py" 1383]⟩), ⟨[]⟩⟩
def o811 (P : Params) : Obj := ⟨.type "function", none, (.func ⟨"__eq__", "Ward.__eq__", dArgs (inC (top 120) 3), .stmts (dBody (inC (top 120) 3)), dScope (inC (top 120) 3), 3, [], .none, .none, .none, .str "rulewardens.wards" 1297, none, .ref 810, .none, 0⟩), ⟨[]⟩⟩
def o812 (P : Params) : Obj := ⟨.type "tuple", none, (.seq ⟨[.str "book" 1385, .str "device" 1386, .str "faces" 1387]⟩ 0), ⟨[]⟩⟩
def o813 (P : Params) : Obj := ⟨.type "dict", none, (.dict ⟨[⟨hs P "__module__", .str "__module__" 1328, .str "rulewardens.wards" 1297⟩, ⟨hs P "__firstlineno__", .str "__firstlineno__" 1332, .int 442 1331⟩, ⟨hs P "__init__", .str "__init__" 1338, .ref 787⟩, ⟨hs P "read", .str "read" 1368, .ref 796⟩, ⟨hs P "__str__", .str "__str__" 1376, .ref 804⟩, ⟨hs P "__eq__", .str "__eq__" 1384, .ref 811⟩, ⟨hs P "__static_attributes__", .str "__static_attributes__" 1388, .ref 812⟩, ⟨hs P "__dict__", .str "__dict__" 1390, .ref 815⟩, ⟨hs P "__weakref__", .str "__weakref__" 1392, .ref 816⟩, ⟨hs P "__doc__", .str "__doc__" 1393, .none⟩, ⟨hs P "__hash__", .str "__hash__" 1394, .none⟩]⟩ 5), ⟨[]⟩⟩
def o814 (P : Params) : Obj := ⟨.type "type", none, (.cls ⟨"Ward", [.type "object"], [.ref 814, .type "object"], 813, "Ward", true, [], [], false, none, false⟩), ⟨[none, none, (some (.str "Ward" 1321)), (some (.str "Ward" 1329)), (some (.builtin "object.__new__")), (some (.bool true))]⟩⟩
def o815 (P : Params) : Obj := ⟨.type "getset_descriptor", none, (.fields ⟨[.str "__dict__" 1389, .ref 814, .builtin "function.__dict__", .builtin "function.__dict__#set"]⟩), ⟨[]⟩⟩
def o816 (P : Params) : Obj := ⟨.type "getset_descriptor", none, (.fields ⟨[.str "__weakref__" 1391, .ref 814, .builtin "ExceptionGroup.__weakref__", .none]⟩), ⟨[]⟩⟩
def o817 (P : Params) : Obj := ⟨.type "super", none, (.fields ⟨[.ref 814, .ref 814, .ref 814]⟩), ⟨[]⟩⟩
def o818 (P : Params) : Obj := ⟨.type "builtin_function_or_method", none, (.fields ⟨[.builtin "object.__init_subclass__", .ref 814]⟩), ⟨[]⟩⟩
def t121_31 (P : Params) : BT := (.node (o31 P) (.node (o63 P) (.node (o127 P) (.node (o255 P) (.node (o511 P) .nil .nil) (.node (o767 P) .nil .nil)) (.node (o383 P) (.node (o639 P) .nil .nil) .nil)) (.node (o191 P) (.node (o319 P) (.node (o575 P) .nil .nil) .nil) (.node (o447 P) (.node (o703 P) .nil .nil) .nil))) (.node (o95 P) (.node (o159 P) (.node (o287 P) (.node (o543 P) .nil .nil) (.node (o799 P) .nil .nil)) (.node (o415 P) (.node (o671 P) .nil .nil) .nil)) (.node (o223 P) (.node (o351 P) (.node (o607 P) .nil .nil) .nil) (.node (o479 P) (.node (o735 P) .nil .nil) .nil))))
def t121_47 (P : Params) : BT := (.node (o47 P) (.node (o79 P) (.node (o143 P) (.node (o271 P) (.node (o527 P) .nil .nil) (.node (o783 P) .nil .nil)) (.node (o399 P) (.node (o655 P) .nil .nil) .nil)) (.node (o207 P) (.node (o335 P) (.node (o591 P) .nil .nil) .nil) (.node (o463 P) (.node (o719 P) .nil .nil) .nil))) (.node (o111 P) (.node (o175 P) (.node (o303 P) (.node (o559 P) .nil .nil) (.node (o815 P) .nil .nil)) (.node (o431 P) (.node (o687 P) .nil .nil) .nil)) (.node (o239 P) (.node (o367 P) (.node (o623 P) .nil .nil) .nil) (.node (o495 P) (.node (o751 P) .nil .nil) .nil))))
def t121_39 (P : Params) : BT := (.node (o39 P) (.node (o71 P) (.node (o135 P) (.node (o263 P) (.node (o519 P) .nil .nil) (.node (o775 P) .nil .nil)) (.node (o391 P) (.node (o647 P) .nil .nil) .nil)) (.node (o199 P) (.node (o327 P) (.node (o583 P) .nil .nil) .nil) (.node (o455 P) (.node (o711 P) .nil .nil) .nil))) (.node (o103 P) (.node (o167 P) (.node (o295 P) (.node (o551 P) .nil .nil) (.node (o807 P) .nil .nil)) (.node (o423 P) (.node (o679 P) .nil .nil) .nil)) (.node (o231 P) (.node (o359 P) (.node (o615 P) .nil .nil) .nil) (.node (o487 P) (.node (o743 P) .nil .nil) .nil))))
def t121_55 (P : Params) : BT := (.node (o55 P) (.node (o87 P) (.node (o151 P) (.node (o279 P) (.node (o535 P) .nil .nil) (.node (o791 P) .nil .nil)) (.node (o407 P) (.node (o663 P) .nil .nil) .nil)) (.node (o215 P) (.node (o343 P) (.node (o599 P) .nil .nil) .nil) (.node (o471 P) (.node (o727 P) .nil .nil) .nil))) (.node (o119 P) (.node (o183 P) (.node (o311 P) (.node (o567 P) .nil .nil) .nil) (.node (o439 P) (.node (o695 P) .nil .nil) .nil)) (.node (o247 P) (.node (o375 P) (.node (o631 P) .nil .nil) .nil) (.node (o503 P) (.node (o759 P) .nil .nil) .nil))))
def t121_35 (P : Params) : BT := (.node (o35 P) (.node (o67 P) (.node (o131 P) (.node (o259 P) (.node (o515 P) .nil .nil) (.node (o771 P) .nil .nil)) (.node (o387 P) (.node (o643 P) .nil .nil) .nil)) (.node (o195 P) (.node (o323 P) (.node (o579 P) .nil .nil) .nil) (.node (o451 P) (.node (o707 P) .nil .nil) .nil))) (.node (o99 P) (.node (o163 P) (.node (o291 P) (.node (o547 P) .nil .nil) (.node (o803 P) .nil .nil)) (.node (o419 P) (.node (o675 P) .nil .nil) .nil)) (.node (o227 P) (.node (o355 P) (.node (o611 P) .nil .nil) .nil) (.node (o483 P) (.node (o739 P) .nil .nil) .nil))))
def t121_51 (P : Params) : BT := (.node (o51 P) (.node (o83 P) (.node (o147 P) (.node (o275 P) (.node (o531 P) .nil .nil) (.node (o787 P) .nil .nil)) (.node (o403 P) (.node (o659 P) .nil .nil) .nil)) (.node (o211 P) (.node (o339 P) (.node (o595 P) .nil .nil) .nil) (.node (o467 P) (.node (o723 P) .nil .nil) .nil))) (.node (o115 P) (.node (o179 P) (.node (o307 P) (.node (o563 P) .nil .nil) .nil) (.node (o435 P) (.node (o691 P) .nil .nil) .nil)) (.node (o243 P) (.node (o371 P) (.node (o627 P) .nil .nil) .nil) (.node (o499 P) (.node (o755 P) .nil .nil) .nil))))
def t121_43 (P : Params) : BT := (.node (o43 P) (.node (o75 P) (.node (o139 P) (.node (o267 P) (.node (o523 P) .nil .nil) (.node (o779 P) .nil .nil)) (.node (o395 P) (.node (o651 P) .nil .nil) .nil)) (.node (o203 P) (.node (o331 P) (.node (o587 P) .nil .nil) .nil) (.node (o459 P) (.node (o715 P) .nil .nil) .nil))) (.node (o107 P) (.node (o171 P) (.node (o299 P) (.node (o555 P) .nil .nil) (.node (o811 P) .nil .nil)) (.node (o427 P) (.node (o683 P) .nil .nil) .nil)) (.node (o235 P) (.node (o363 P) (.node (o619 P) .nil .nil) .nil) (.node (o491 P) (.node (o747 P) .nil .nil) .nil))))
def t121_59 (P : Params) : BT := (.node (o59 P) (.node (o91 P) (.node (o155 P) (.node (o283 P) (.node (o539 P) .nil .nil) (.node (o795 P) .nil .nil)) (.node (o411 P) (.node (o667 P) .nil .nil) .nil)) (.node (o219 P) (.node (o347 P) (.node (o603 P) .nil .nil) .nil) (.node (o475 P) (.node (o731 P) .nil .nil) .nil))) (.node (o123 P) (.node (o187 P) (.node (o315 P) (.node (o571 P) .nil .nil) .nil) (.node (o443 P) (.node (o699 P) .nil .nil) .nil)) (.node (o251 P) (.node (o379 P) (.node (o635 P) .nil .nil) .nil) (.node (o507 P) (.node (o763 P) .nil .nil) .nil))))
def t121_33 (P : Params) : BT := (.node (o33 P) (.node (o65 P) (.node (o129 P) (.node (o257 P) (.node (o513 P) .nil .nil) (.node (o769 P) .nil .nil)) (.node (o385 P) (.node (o641 P) .nil .nil) .nil)) (.node (o193 P) (.node (o321 P) (.node (o577 P) .nil .nil) .nil) (.node (o449 P) (.node (o705 P) .nil .nil) .nil))) (.node (o97 P) (.node (o161 P) (.node (o289 P) (.node (o545 P) .nil .nil) (.node (o801 P) .nil .nil)) (.node (o417 P) (.node (o673 P) .nil .nil) .nil)) (.node (o225 P) (.node (o353 P) (.node (o609 P) .nil .nil) .nil) (.node (o481 P) (.node (o737 P) .nil .nil) .nil))))
def t121_49 (P : Params) : BT := (.node (o49 P) (.node (o81 P) (.node (o145 P) (.node (o273 P) (.node (o529 P) .nil .nil) (.node (o785 P) .nil .nil)) (.node (o401 P) (.node (o657 P) .nil .nil) .nil)) (.node (o209 P) (.node (o337 P) (.node (o593 P) .nil .nil) .nil) (.node (o465 P) (.node (o721 P) .nil .nil) .nil))) (.node (o113 P) (.node (o177 P) (.node (o305 P) (.node (o561 P) .nil .nil) (.node (o817 P) .nil .nil)) (.node (o433 P) (.node (o689 P) .nil .nil) .nil)) (.node (o241 P) (.node (o369 P) (.node (o625 P) .nil .nil) .nil) (.node (o497 P) (.node (o753 P) .nil .nil) .nil))))
def t121_41 (P : Params) : BT := (.node (o41 P) (.node (o73 P) (.node (o137 P) (.node (o265 P) (.node (o521 P) .nil .nil) (.node (o777 P) .nil .nil)) (.node (o393 P) (.node (o649 P) .nil .nil) .nil)) (.node (o201 P) (.node (o329 P) (.node (o585 P) .nil .nil) .nil) (.node (o457 P) (.node (o713 P) .nil .nil) .nil))) (.node (o105 P) (.node (o169 P) (.node (o297 P) (.node (o553 P) .nil .nil) (.node (o809 P) .nil .nil)) (.node (o425 P) (.node (o681 P) .nil .nil) .nil)) (.node (o233 P) (.node (o361 P) (.node (o617 P) .nil .nil) .nil) (.node (o489 P) (.node (o745 P) .nil .nil) .nil))))
def t121_57 (P : Params) : BT := (.node (o57 P) (.node (o89 P) (.node (o153 P) (.node (o281 P) (.node (o537 P) .nil .nil) (.node (o793 P) .nil .nil)) (.node (o409 P) (.node (o665 P) .nil .nil) .nil)) (.node (o217 P) (.node (o345 P) (.node (o601 P) .nil .nil) .nil) (.node (o473 P) (.node (o729 P) .nil .nil) .nil))) (.node (o121 P) (.node (o185 P) (.node (o313 P) (.node (o569 P) .nil .nil) .nil) (.node (o441 P) (.node (o697 P) .nil .nil) .nil)) (.node (o249 P) (.node (o377 P) (.node (o633 P) .nil .nil) .nil) (.node (o505 P) (.node (o761 P) .nil .nil) .nil))))
def t121_37 (P : Params) : BT := (.node (o37 P) (.node (o69 P) (.node (o133 P) (.node (o261 P) (.node (o517 P) .nil .nil) (.node (o773 P) .nil .nil)) (.node (o389 P) (.node (o645 P) .nil .nil) .nil)) (.node (o197 P) (.node (o325 P) (.node (o581 P) .nil .nil) .nil) (.node (o453 P) (.node (o709 P) .nil .nil) .nil))) (.node (o101 P) (.node (o165 P) (.node (o293 P) (.node (o549 P) .nil .nil) (.node (o805 P) .nil .nil)) (.node (o421 P) (.node (o677 P) .nil .nil) .nil)) (.node (o229 P) (.node (o357 P) (.node (o613 P) .nil .nil) .nil) (.node (o485 P) (.node (o741 P) .nil .nil) .nil))))
def t121_53 (P : Params) : BT := (.node (o53 P) (.node (o85 P) (.node (o149 P) (.node (o277 P) (.node (o533 P) .nil .nil) (.node (o789 P) .nil .nil)) (.node (o405 P) (.node (o661 P) .nil .nil) .nil)) (.node (o213 P) (.node (o341 P) (.node (o597 P) .nil .nil) .nil) (.node (o469 P) (.node (o725 P) .nil .nil) .nil))) (.node (o117 P) (.node (o181 P) (.node (o309 P) (.node (o565 P) .nil .nil) .nil) (.node (o437 P) (.node (o693 P) .nil .nil) .nil)) (.node (o245 P) (.node (o373 P) (.node (o629 P) .nil .nil) .nil) (.node (o501 P) (.node (o757 P) .nil .nil) .nil))))
def t121_45 (P : Params) : BT := (.node (o45 P) (.node (o77 P) (.node (o141 P) (.node (o269 P) (.node (o525 P) .nil .nil) (.node (o781 P) .nil .nil)) (.node (o397 P) (.node (o653 P) .nil .nil) .nil)) (.node (o205 P) (.node (o333 P) (.node (o589 P) .nil .nil) .nil) (.node (o461 P) (.node (o717 P) .nil .nil) .nil))) (.node (o109 P) (.node (o173 P) (.node (o301 P) (.node (o557 P) .nil .nil) (.node (o813 P) .nil .nil)) (.node (o429 P) (.node (o685 P) .nil .nil) .nil)) (.node (o237 P) (.node (o365 P) (.node (o621 P) .nil .nil) .nil) (.node (o493 P) (.node (o749 P) .nil .nil) .nil))))
def t121_61 (P : Params) : BT := (.node (o61 P) (.node (o93 P) (.node (o157 P) (.node (o285 P) (.node (o541 P) .nil .nil) (.node (o797 P) .nil .nil)) (.node (o413 P) (.node (o669 P) .nil .nil) .nil)) (.node (o221 P) (.node (o349 P) (.node (o605 P) .nil .nil) .nil) (.node (o477 P) (.node (o733 P) .nil .nil) .nil))) (.node (o125 P) (.node (o189 P) (.node (o317 P) (.node (o573 P) .nil .nil) .nil) (.node (o445 P) (.node (o701 P) .nil .nil) .nil)) (.node (o253 P) (.node (o381 P) (.node (o637 P) .nil .nil) .nil) (.node (o509 P) (.node (o765 P) .nil .nil) .nil))))
def t121_32 (P : Params) : BT := (.node (o32 P) (.node (o64 P) (.node (o128 P) (.node (o256 P) (.node (o512 P) .nil .nil) (.node (o768 P) .nil .nil)) (.node (o384 P) (.node (o640 P) .nil .nil) .nil)) (.node (o192 P) (.node (o320 P) (.node (o576 P) .nil .nil) .nil) (.node (o448 P) (.node (o704 P) .nil .nil) .nil))) (.node (o96 P) (.node (o160 P) (.node (o288 P) (.node (o544 P) .nil .nil) (.node (o800 P) .nil .nil)) (.node (o416 P) (.node (o672 P) .nil .nil) .nil)) (.node (o224 P) (.node (o352 P) (.node (o608 P) .nil .nil) .nil) (.node (o480 P) (.node (o736 P) .nil .nil) .nil))))
def t121_48 (P : Params) : BT := (.node (o48 P) (.node (o80 P) (.node (o144 P) (.node (o272 P) (.node (o528 P) .nil .nil) (.node (o784 P) .nil .nil)) (.node (o400 P) (.node (o656 P) .nil .nil) .nil)) (.node (o208 P) (.node (o336 P) (.node (o592 P) .nil .nil) .nil) (.node (o464 P) (.node (o720 P) .nil .nil) .nil))) (.node (o112 P) (.node (o176 P) (.node (o304 P) (.node (o560 P) .nil .nil) (.node (o816 P) .nil .nil)) (.node (o432 P) (.node (o688 P) .nil .nil) .nil)) (.node (o240 P) (.node (o368 P) (.node (o624 P) .nil .nil) .nil) (.node (o496 P) (.node (o752 P) .nil .nil) .nil))))
def t121_40 (P : Params) : BT := (.node (o40 P) (.node (o72 P) (.node (o136 P) (.node (o264 P) (.node (o520 P) .nil .nil) (.node (o776 P) .nil .nil)) (.node (o392 P) (.node (o648 P) .nil .nil) .nil)) (.node (o200 P) (.node (o328 P) (.node (o584 P) .nil .nil) .nil) (.node (o456 P) (.node (o712 P) .nil .nil) .nil))) (.node (o104 P) (.node (o168 P) (.node (o296 P) (.node (o552 P) .nil .nil) (.node (o808 P) .nil .nil)) (.node (o424 P) (.node (o680 P) .nil .nil) .nil)) (.node (o232 P) (.node (o360 P) (.node (o616 P) .nil .nil) .nil) (.node (o488 P) (.node (o744 P) .nil .nil) .nil))))
def t121_56 (P : Params) : BT := (.node (o56 P) (.node (o88 P) (.node (o152 P) (.node (o280 P) (.node (o536 P) .nil .nil) (.node (o792 P) .nil .nil)) (.node (o408 P) (.node (o664 P) .nil .nil) .nil)) (.node (o216 P) (.node (o344 P) (.node (o600 P) .nil .nil) .nil) (.node (o472 P) (.node (o728 P) .nil .nil) .nil))) (.node (o120 P) (.node (o184 P) (.node (o312 P) (.node (o568 P) .nil .nil) .nil) (.node (o440 P) (.node (o696 P) .nil .nil) .nil)) (.node (o248 P) (.node (o376 P) (.node (o632 P) .nil .nil) .nil) (.node (o504 P) (.node (o760 P) .nil .nil) .nil))))
def t121_36 (P : Params) : BT := (.node (o36 P) (.node (o68 P) (.node (o132 P) (.node (o260 P) (.node (o516 P) .nil .nil) (.node (o772 P) .nil .nil)) (.node (o388 P) (.node (o644 P) .nil .nil) .nil)) (.node (o196 P) (.node (o324 P) (.node (o580 P) .nil .nil) .nil) (.node (o452 P) (.node (o708 P) .nil .nil) .nil))) (.node (o100 P) (.node (o164 P) (.node (o292 P) (.node (o548 P) .nil .nil) (.node (o804 P) .nil .nil)) (.node (o420 P) (.node (o676 P) .nil .nil) .nil)) (.node (o228 P) (.node (o356 P) (.node (o612 P) .nil .nil) .nil) (.node (o484 P) (.node (o740 P) .nil .nil) .nil))))
def t121_52 (P : Params) : BT := (.node (o52 P) (.node (o84 P) (.node (o148 P) (.node (o276 P) (.node (o532 P) .nil .nil) (.node (o788 P) .nil .nil)) (.node (o404 P) (.node (o660 P) .nil .nil) .nil)) (.node (o212 P) (.node (o340 P) (.node (o596 P) .nil .nil) .nil) (.node (o468 P) (.node (o724 P) .nil .nil) .nil))) (.node (o116 P) (.node (o180 P) (.node (o308 P) (.node (o564 P) .nil .nil) .nil) (.node (o436 P) (.node (o692 P) .nil .nil) .nil)) (.node (o244 P) (.node (o372 P) (.node (o628 P) .nil .nil) .nil) (.node (o500 P) (.node (o756 P) .nil .nil) .nil))))
def t121_44 (P : Params) : BT := (.node (o44 P) (.node (o76 P) (.node (o140 P) (.node (o268 P) (.node (o524 P) .nil .nil) (.node (o780 P) .nil .nil)) (.node (o396 P) (.node (o652 P) .nil .nil) .nil)) (.node (o204 P) (.node (o332 P) (.node (o588 P) .nil .nil) .nil) (.node (o460 P) (.node (o716 P) .nil .nil) .nil))) (.node (o108 P) (.node (o172 P) (.node (o300 P) (.node (o556 P) .nil .nil) (.node (o812 P) .nil .nil)) (.node (o428 P) (.node (o684 P) .nil .nil) .nil)) (.node (o236 P) (.node (o364 P) (.node (o620 P) .nil .nil) .nil) (.node (o492 P) (.node (o748 P) .nil .nil) .nil))))
def t121_60 (P : Params) : BT := (.node (o60 P) (.node (o92 P) (.node (o156 P) (.node (o284 P) (.node (o540 P) .nil .nil) (.node (o796 P) .nil .nil)) (.node (o412 P) (.node (o668 P) .nil .nil) .nil)) (.node (o220 P) (.node (o348 P) (.node (o604 P) .nil .nil) .nil) (.node (o476 P) (.node (o732 P) .nil .nil) .nil))) (.node (o124 P) (.node (o188 P) (.node (o316 P) (.node (o572 P) .nil .nil) .nil) (.node (o444 P) (.node (o700 P) .nil .nil) .nil)) (.node (o252 P) (.node (o380 P) (.node (o636 P) .nil .nil) .nil) (.node (o508 P) (.node (o764 P) .nil .nil) .nil))))
def t121_34 (P : Params) : BT := (.node (o34 P) (.node (o66 P) (.node (o130 P) (.node (o258 P) (.node (o514 P) .nil .nil) (.node (o770 P) .nil .nil)) (.node (o386 P) (.node (o642 P) .nil .nil) .nil)) (.node (o194 P) (.node (o322 P) (.node (o578 P) .nil .nil) .nil) (.node (o450 P) (.node (o706 P) .nil .nil) .nil))) (.node (o98 P) (.node (o162 P) (.node (o290 P) (.node (o546 P) .nil .nil) (.node (o802 P) .nil .nil)) (.node (o418 P) (.node (o674 P) .nil .nil) .nil)) (.node (o226 P) (.node (o354 P) (.node (o610 P) .nil .nil) .nil) (.node (o482 P) (.node (o738 P) .nil .nil) .nil))))
def t121_50 (P : Params) : BT := (.node (o50 P) (.node (o82 P) (.node (o146 P) (.node (o274 P) (.node (o530 P) .nil .nil) (.node (o786 P) .nil .nil)) (.node (o402 P) (.node (o658 P) .nil .nil) .nil)) (.node (o210 P) (.node (o338 P) (.node (o594 P) .nil .nil) .nil) (.node (o466 P) (.node (o722 P) .nil .nil) .nil))) (.node (o114 P) (.node (o178 P) (.node (o306 P) (.node (o562 P) .nil .nil) (.node (o818 P) .nil .nil)) (.node (o434 P) (.node (o690 P) .nil .nil) .nil)) (.node (o242 P) (.node (o370 P) (.node (o626 P) .nil .nil) .nil) (.node (o498 P) (.node (o754 P) .nil .nil) .nil))))
def t121_42 (P : Params) : BT := (.node (o42 P) (.node (o74 P) (.node (o138 P) (.node (o266 P) (.node (o522 P) .nil .nil) (.node (o778 P) .nil .nil)) (.node (o394 P) (.node (o650 P) .nil .nil) .nil)) (.node (o202 P) (.node (o330 P) (.node (o586 P) .nil .nil) .nil) (.node (o458 P) (.node (o714 P) .nil .nil) .nil))) (.node (o106 P) (.node (o170 P) (.node (o298 P) (.node (o554 P) .nil .nil) (.node (o810 P) .nil .nil)) (.node (o426 P) (.node (o682 P) .nil .nil) .nil)) (.node (o234 P) (.node (o362 P) (.node (o618 P) .nil .nil) .nil) (.node (o490 P) (.node (o746 P) .nil .nil) .nil))))
def t121_58 (P : Params) : BT := (.node (o58 P) (.node (o90 P) (.node (o154 P) (.node (o282 P) (.node (o538 P) .nil .nil) (.node (o794 P) .nil .nil)) (.node (o410 P) (.node (o666 P) .nil .nil) .nil)) (.node (o218 P) (.node (o346 P) (.node (o602 P) .nil .nil) .nil) (.node (o474 P) (.node (o730 P) .nil .nil) .nil))) (.node (o122 P) (.node (o186 P) (.node (o314 P) (.node (o570 P) .nil .nil) .nil) (.node (o442 P) (.node (o698 P) .nil .nil) .nil)) (.node (o250 P) (.node (o378 P) (.node (o634 P) .nil .nil) .nil) (.node (o506 P) (.node (o762 P) .nil .nil) .nil))))
def t121_38 (P : Params) : BT := (.node (o38 P) (.node (o70 P) (.node (o134 P) (.node (o262 P) (.node (o518 P) .nil .nil) (.node (o774 P) .nil .nil)) (.node (o390 P) (.node (o646 P) .nil .nil) .nil)) (.node (o198 P) (.node (o326 P) (.node (o582 P) .nil .nil) .nil) (.node (o454 P) (.node (o710 P) .nil .nil) .nil))) (.node (o102 P) (.node (o166 P) (.node (o294 P) (.node (o550 P) .nil .nil) (.node (o806 P) .nil .nil)) (.node (o422 P) (.node (o678 P) .nil .nil) .nil)) (.node (o230 P) (.node (o358 P) (.node (o614 P) .nil .nil) .nil) (.node (o486 P) (.node (o742 P) .nil .nil) .nil))))
def t121_54 (P : Params) : BT := (.node (o54 P) (.node (o86 P) (.node (o150 P) (.node (o278 P) (.node (o534 P) .nil .nil) (.node (o790 P) .nil .nil)) (.node (o406 P) (.node (o662 P) .nil .nil) .nil)) (.node (o214 P) (.node (o342 P) (.node (o598 P) .nil .nil) .nil) (.node (o470 P) (.node (o726 P) .nil .nil) .nil))) (.node (o118 P) (.node (o182 P) (.node (o310 P) (.node (o566 P) .nil .nil) .nil) (.node (o438 P) (.node (o694 P) .nil .nil) .nil)) (.node (o246 P) (.node (o374 P) (.node (o630 P) .nil .nil) .nil) (.node (o502 P) (.node (o758 P) .nil .nil) .nil))))
def t121_46 (P : Params) : BT := (.node (o46 P) (.node (o78 P) (.node (o142 P) (.node (o270 P) (.node (o526 P) .nil .nil) (.node (o782 P) .nil .nil)) (.node (o398 P) (.node (o654 P) .nil .nil) .nil)) (.node (o206 P) (.node (o334 P) (.node (o590 P) .nil .nil) .nil) (.node (o462 P) (.node (o718 P) .nil .nil) .nil))) (.node (o110 P) (.node (o174 P) (.node (o302 P) (.node (o558 P) .nil .nil) (.node (o814 P) .nil .nil)) (.node (o430 P) (.node (o686 P) .nil .nil) .nil)) (.node (o238 P) (.node (o366 P) (.node (o622 P) .nil .nil) .nil) (.node (o494 P) (.node (o750 P) .nil .nil) .nil))))
def t121_62 (P : Params) : BT := (.node (o62 P) (.node (o94 P) (.node (o158 P) (.node (o286 P) (.node (o542 P) .nil .nil) (.node (o798 P) .nil .nil)) (.node (o414 P) (.node (o670 P) .nil .nil) .nil)) (.node (o222 P) (.node (o350 P) (.node (o606 P) .nil .nil) .nil) (.node (o478 P) (.node (o734 P) .nil .nil) .nil))) (.node (o126 P) (.node (o190 P) (.node (o318 P) (.node (o574 P) .nil .nil) .nil) (.node (o446 P) (.node (o702 P) .nil .nil) .nil)) (.node (o254 P) (.node (o382 P) (.node (o638 P) .nil .nil) .nil) (.node (o510 P) (.node (o766 P) .nil .nil) .nil))))
def t121 (P : Params) : BT := (.node (o0 P) (.node (o1 P) (.node (o3_4 P) (.node (o7 P) (.node (o15 P) (t121_31 P) (t121_47 P)) (.node (o23 P) (t121_39 P) (t121_55 P))) (.node (o11 P) (.node (o19 P) (t121_35 P) (t121_51 P)) (.node (o27 P) (t121_43 P) (t121_59 P)))) (.node (o5 P) (.node (o9 P) (.node (o17 P) (t121_33 P) (t121_49 P)) (.node (o25 P) (t121_41 P) (t121_57 P))) (.node (o13 P) (.node (o21 P) (t121_37 P) (t121_53 P)) (.node (o29 P) (t121_45 P) (t121_61 P))))) (.node (o2_3 P) (.node (o4 P) (.node (o8 P) (.node (o16 P) (t121_32 P) (t121_48 P)) (.node (o24 P) (t121_40 P) (t121_56 P))) (.node (o12_4 P) (.node (o20 P) (t121_36 P) (t121_52 P)) (.node (o28 P) (t121_44 P) (t121_60 P)))) (.node (o6 P) (.node (o10 P) (.node (o18 P) (t121_34 P) (t121_50 P)) (.node (o26 P) (t121_42 P) (t121_58 P))) (.node (o14 P) (.node (o22 P) (t121_38 P) (t121_54 P)) (.node (o30 P) (t121_46 P) (t121_62 P))))))
def l121 : Life := ⟨[], [], [], 0, [], [], false, ⟨[]⟩, [], 0, false, false, false, 0, [2000, 10, 10], false, 0, true, [], [], 0, false⟩
def S121 (w : World) (os : OsState) : SharedT := ⟨t121 w.params, 819, l121, ⟨[]⟩, ⟨0, 0, 0, 0⟩, 1397, os⟩
def o3_5 (P : Params) : Obj := ⟨.type "dict", none, (.dict ⟨[⟨hs P "__name__", .str "__name__" 165, .str "rulewardens.onlookers" 2085⟩, ⟨hs P "__doc__", .str "__doc__" 166, .none⟩, ⟨hs P "__package__", .str "__package__" 167, .none⟩, ⟨hs P "__loader__", .str "__loader__" 168, .builtin "__main__.__loader__#opaque"⟩, ⟨hs P "__spec__", .str "__spec__" 169, .none⟩, ⟨hs P "__annotations__", .str "__annotations__" 170, .ref 6⟩, ⟨hs P "__builtins__", .str "__builtins__" 171, .ref 4⟩, ⟨hs P "__file__", .str "__file__" 173, .str "/claim/cut.py" 172⟩, ⟨hs P "__cached__", .str "__cached__" 174, .none⟩, ⟨hs P "_wall", .str "_wall" 193, .ref 21⟩, ⟨hs P "WardError", .str "WardError" 215, .ref 31⟩, ⟨hs P "BadBook", .str "BadBook" 242, .ref 53⟩, ⟨hs P "BadDevice", .str "BadDevice" 269, .ref 74⟩, ⟨hs P "BadWard", .str "BadWard" 296, .ref 95⟩, ⟨hs P "BadText", .str "BadText" 323, .ref 116⟩, ⟨hs P "TooMany", .str "TooMany" 350, .ref 137⟩, ⟨hs P "BadOnlooker", .str "BadOnlooker" 377, .ref 158⟩, ⟨hs P "OtherFaces", .str "OtherFaces" 393, .ref 170⟩, ⟨hs P "BadName", .str "BadName" 420, .ref 191⟩, ⟨hs P "NameTaken", .str "NameTaken" 447, .ref 212⟩, ⟨hs P "NoWard", .str "NoWard" 474, .ref 233⟩, ⟨hs P "NotHeard", .str "NotHeard" 501, .ref 254⟩, ⟨hs P "NotAlike", .str "NotAlike" 528, .ref 275⟩, ⟨hs P "Harmful", .str "Harmful" 555, .ref 296⟩, ⟨hs P "NothingToUndo", .str "NothingToUndo" 571, .ref 308⟩, ⟨hs P "NothingToRedo", .str "NothingToRedo" 587, .ref 320⟩, ⟨hs P "InvalidCommand", .str "InvalidCommand" 603, .ref 332⟩, ⟨hs P "BLANK_commands", .str "BLANK_commands" 607, .str " " 606⟩, ⟨hs P "BREAK_commands", .str "BREAK_commands" 609, .str "\n" 608⟩, ⟨hs P "SEMICOLON", .str "SEMICOLON" 611, .str ";" 610⟩, ⟨hs P "TEXT_WORDS", .str "TEXT_WORDS" 615, .ref 335⟩, ⟨hs P "LEAST_TEXT_WORDS", .str "LEAST_TEXT_WORDS" 617, .int 3 616⟩, ⟨hs P "WORD_COUNTS", .str "WORD_COUNTS" 672, .ref 336⟩, ⟨hs P "command_words", .str "command_words" 680, .ref 344⟩, ⟨hs P "line_of_text", .str "line_of_text" 687, .ref 351⟩, ⟨hs P "BLANK_booktexts", .str "BLANK_booktexts" 691, .str " " 690⟩, ⟨hs P "BREAK_booktexts", .str "BREAK_booktexts" 693, .str "\n" 692⟩, ⟨hs P "COMMA", .str "COMMA" 695, .str "," 694⟩, ⟨hs P "NONE", .str "NONE" 697, .str "-" 696⟩, ⟨hs P "DIGITS", .str "DIGITS" 699, .str "0123456789" 698⟩, ⟨hs P "LETTERS_booktexts", .str "LETTERS_booktexts" 701, .str "abcdefghijklmnopqrstuvwxyz" 700⟩, ⟨hs P "MOST_DIGITS", .str "MOST_DIGITS" 703, .int 9 702⟩, ⟨hs P "ROOMS_WORD", .str "ROOMS_WORD" 705, .str "rooms" 704⟩, ⟨hs P "FIRST_WORD", .str "FIRST_WORD" 707, .str "first" 706⟩, ⟨hs P "MOVE_WORD", .str "MOVE_WORD" 709, .str "move" 708⟩, ⟨hs P "FACE_WORD", .str "FACE_WORD" 711, .str "face" 710⟩, ⟨hs P "STATE_WORD", .str "STATE_WORD" 713, .str "state" 712⟩, ⟨hs P "STEP_WORD", .str "STEP_WORD" 715, .str "step" 714⟩, ⟨hs P "YES", .str "YES" 717, .str "yes" 716⟩, ⟨hs P "NO", .str "NO" 719, .str "no" 718⟩, ⟨hs P "MOVE_WORDS", .str "MOVE_WORDS" 721, .int 7 720⟩, ⟨hs P "THREE_WORDS", .str "THREE_WORDS" 723, .int 3 722⟩, ⟨hs P "STEP_WORDS", .str "STEP_WORDS" 725, .int 4 724⟩, ⟨hs P "whole_in", .str "whole_in" 731, .ref 356⟩, ⟨hs P "wholes_in", .str "wholes_in" 737, .ref 361⟩, ⟨hs P "list_in", .str "list_in" 744, .ref 368⟩, ⟨hs P "heard_in", .str "heard_in" 750, .ref 373⟩, ⟨hs P "word_of_list", .str "word_of_list" 756, .ref 378⟩, ⟨hs P "word_of_heard", .str "word_of_heard" 763, .ref 385⟩, ⟨hs P "rooms_in", .str "rooms_in" 770, .ref 392⟩, ⟨hs P "first_in", .str "first_in" 777, .ref 399⟩, ⟨hs P "move_in", .str "move_in" 783, .ref 404⟩, ⟨hs P "face_in", .str "face_in" 789, .ref 409⟩, ⟨hs P "state_in", .str "state_in" 796, .ref 416⟩, ⟨hs P "step_in", .str "step_in" 804, .ref 423⟩, ⟨hs P "lines_in", .str "lines_in" 810, .ref 428⟩, ⟨hs P "lines_of_kind", .str "lines_of_kind" 820, .ref 435⟩, ⟨hs P "lines_of_book", .str "lines_of_book" 826, .ref 440⟩, ⟨hs P "lines_of_device", .str "lines_of_device" 832, .ref 445⟩, ⟨hs P "lines_of_faces", .str "lines_of_faces" 838, .ref 450⟩, ⟨hs P "AWAY", .str "AWAY" 843, .int (-1) 842⟩, ⟨hs P "MOST_ROOM", .str "MOST_ROOM" 845, .int 9 844⟩, ⟨hs P "MOST_FACE", .str "MOST_FACE" 847, .int 99 846⟩, ⟨hs P "MOVE_PARTS", .str "MOVE_PARTS" 849, .int 6 848⟩, ⟨hs P "is_integer", .str "is_integer" 856, .ref 457⟩, ⟨hs P "is_between", .str "is_between" 865, .ref 464⟩, ⟨hs P "are_ascending", .str "are_ascending" 871, .ref 469⟩, ⟨hs P "is_heard", .str "is_heard" 877, .ref 474⟩, ⟨hs P "are_rooms", .str "are_rooms" 883, .ref 479⟩, ⟨hs P "is_move", .str "is_move" 889, .ref 484⟩, ⟨hs P "check_moves", .str "check_moves" 899, .ref 491⟩, ⟨hs P "book_lines", .str "book_lines" 913, .ref 498⟩, ⟨hs P "Book", .str "Book" 1002, .ref 551⟩, ⟨hs P "has_somebody", .str "has_somebody" 1008, .ref 560⟩, ⟨hs P "rooms_seen", .str "rooms_seen" 1014, .ref 565⟩, ⟨hs P "is_move_open", .str "is_move_open" 1020, .ref 570⟩, ⟨hs P "open_moves", .str "open_moves" 1026, .ref 575⟩, ⟨hs P "moves_by_origin", .str "moves_by_origin" 1032, .ref 580⟩, ⟨hs P "has_open_move", .str "has_open_move" 1038, .ref 585⟩, ⟨hs P "some_of", .str "some_of" 1044, .ref 590⟩, ⟨hs P "choices", .str "choices" 1050, .ref 595⟩, ⟨hs P "heard_of", .str "heard_of" 1056, .ref 600⟩, ⟨hs P "where_behind", .str "where_behind" 1062, .ref 605⟩, ⟨hs P "outcomes", .str "outcomes" 1071, .ref 612⟩, ⟨hs P "outcomes_found", .str "outcomes_found" 1077, .ref 617⟩, ⟨hs P "PAIR", .str "PAIR" 1081, .int 2 1080⟩, ⟨hs P "STEP_PARTS", .str "STEP_PARTS" 1083, .int 3 1082⟩, ⟨hs P "SILENCE_devices", .str "SILENCE_devices" 1085, .str "" 1084⟩, ⟨hs P "are_faces", .str "are_faces" 1091, .ref 622⟩, ⟨hs P "is_face", .str "is_face" 1097, .ref 627⟩, ⟨hs P "are_shown", .str "are_shown" 1103, .ref 632⟩, ⟨hs P "is_step", .str "is_step" 1114, .ref 639⟩, ⟨hs P "is_later", .str "is_later" 1122, .ref 646⟩, ⟨hs P "are_steps", .str "are_steps" 1128, .ref 651⟩, ⟨hs P "are_others", .str "are_others" 1134, .ref 656⟩, ⟨hs P "device_lines", .str "device_lines" 1140, .ref 661⟩, ⟨hs P "Device", .str "Device" 1225, .ref 714⟩, ⟨hs P "silent_ticks", .str "silent_ticks" 1236, .ref 725⟩, ⟨hs P "first_lot", .str "first_lot" 1245, .ref 732⟩, ⟨hs P "answers", .str "answers" 1251, .ref 737⟩, ⟨hs P "lot_after", .str "lot_after" 1263, .ref 744⟩, ⟨hs P "lots_along", .str "lots_along" 1274, .ref 751⟩, ⟨hs P "lot_behind", .str "lot_behind" 1282, .ref 758⟩, ⟨hs P "cut_heard", .str "cut_heard" 1290, .ref 763⟩, ⟨hs P "answers_by_ears", .str "answers_by_ears" 1296, .ref 768⟩, ⟨hs P "SHUT", .str "SHUT" 1300, .str "shut" 1299⟩, ⟨hs P "BELL", .str "BELL" 1302, .str "bell" 1301⟩, ⟨hs P "OPEN", .str "OPEN" 1304, .str "open" 1303⟩, ⟨hs P "KEPT_wards", .str "KEPT_wards" 1306, .str "kept" 1305⟩, ⟨hs P "HARM", .str "HARM" 1308, .str "harm" 1307⟩, ⟨hs P "faces_told", .str "faces_told" 1320, .ref 775⟩, ⟨hs P "Ward", .str "Ward" 1396, .ref 814⟩, ⟨hs P "first_picture", .str "first_picture" 1403, .ref 825⟩, ⟨hs P "choices_in", .str "choices_in" 1411, .ref 832⟩, ⟨hs P "led_by", .str "led_by" 1423, .ref 839⟩, ⟨hs P "has_harm", .str "has_harm" 1436, .ref 846⟩, ⟨hs P "next_pictures", .str "next_pictures" 1442, .ref 851⟩, ⟨hs P "first_runs", .str "first_runs" 1457, .ref 858⟩, ⟨hs P "judge_ward", .str "judge_ward" 1471, .ref 866⟩, ⟨hs P "SILENCE_plays", .str "SILENCE_plays" 1475, .str "" 1474⟩, ⟨hs P "NO_LOT", .str "NO_LOT" 1476, .ref 867⟩, ⟨hs P "chosen_faces", .str "chosen_faces" 1484, .ref 874⟩, ⟨hs P "is_safe", .str "is_safe" 1490, .ref 879⟩, ⟨hs P "safe_faces", .str "safe_faces" 1497, .ref 885⟩, ⟨hs P "is_waiting", .str "is_waiting" 1503, .ref 890⟩, ⟨hs P "Spot", .str "Spot" 1536, .ref 907⟩, ⟨hs P "Board", .str "Board" 1605, .ref 954⟩, ⟨hs P "KEPT_keepers", .str "KEPT_keepers" 1609, .str "kept" 1608⟩, ⟨hs P "REFUSED_keepers", .str "REFUSED_keepers" 1611, .str "refused" 1610⟩, ⟨hs P "LOST", .str "LOST" 1613, .str "lost" 1612⟩, ⟨hs P "SILENT", .str "SILENT" 1615, .str "silent" 1614⟩, ⟨hs P "lots_played", .str "lots_played" 1629, .ref 965⟩, ⟨hs P "Rounds", .str "Rounds" 1701, .ref 1009⟩, ⟨hs P "lots_led", .str "lots_led" 1713, .ref 1020⟩, ⟨hs P "kept_paper", .str "kept_paper" 1719, .ref 1025⟩, ⟨hs P "judge_keeping", .str "judge_keeping" 1737, .ref 1033⟩, ⟨hs P "can_keep", .str "can_keep" 1753, .ref 1041⟩, ⟨hs P "KEPT_ears", .str "KEPT_ears" 1757, .str "kept" 1756⟩, ⟨hs P "REFUSED_ears", .str "REFUSED_ears" 1759, .str "refused" 1758⟩, ⟨hs P "MOST_LOTS", .str "MOST_LOTS" 1761, .int 60 1760⟩, ⟨hs P "sublists", .str "sublists" 1767, .ref 1046⟩, ⟨hs P "all_ears", .str "all_ears" 1773, .ref 1051⟩, ⟨hs P "is_within_set", .str "is_within_set" 1779, .ref 1056⟩, ⟨hs P "least_among", .str "least_among" 1785, .ref 1061⟩, ⟨hs P "least_ears", .str "least_ears" 1793, .ref 1067⟩, ⟨hs P "BARRED", .str "BARRED" 1797, .str "barred" 1796⟩, ⟨hs P "NO_BAR", .str "NO_BAR" 1799, .str "no bar" 1798⟩, ⟨hs P "GREATEST", .str "GREATEST" 1801, .int 3 1800⟩, ⟨hs P "barred_book", .str "barred_book" 1809, .ref 1074⟩, ⟨hs P "bars_of_size", .str "bars_of_size" 1815, .ref 1079⟩, ⟨hs P "bars_judged", .str "bars_judged" 1828, .ref 1086⟩, ⟨hs P "bars_paper", .str "bars_paper" 1836, .ref 1092⟩, ⟨hs P "first_part", .str "first_part" 1843, .ref 1099⟩, ⟨hs P "fewest_bars", .str "fewest_bars" 1851, .ref 1105⟩, ⟨hs P "shares", .str "shares" 1859, .ref 1110⟩, ⟨hs P "first_crowds", .str "first_crowds" 1865, .ref 1115⟩, ⟨hs P "where_of", .str "where_of" 1871, .ref 1120⟩, ⟨hs P "goings_from", .str "goings_from" 1877, .ref 1125⟩, ⟨hs P "ways_of_pair", .str "ways_of_pair" 1883, .ref 1130⟩, ⟨hs P "is_log", .str "is_log" 1891, .ref 1135⟩, ⟨hs P "states_along", .str "states_along" 1901, .ref 1142⟩, ⟨hs P "state_behind", .str "state_behind" 1909, .ref 1149⟩, ⟨hs P "can_come", .str "can_come" 1917, .ref 1156⟩, ⟨hs P "crowd_ways", .str "crowd_ways" 1933, .ref 1163⟩, ⟨hs P "crowds_along", .str "crowds_along" 1939, .ref 1168⟩, ⟨hs P "crowds_of_log", .str "crowds_of_log" 1948, .ref 1175⟩, ⟨hs P "people_of_log", .str "people_of_log" 1960, .ref 1183⟩, ⟨hs P "is_one_face", .str "is_one_face" 1971, .ref 1190⟩, ⟨hs P "rows_behind", .str "rows_behind" 1977, .ref 1195⟩, ⟨hs P "logs_to_rows", .str "logs_to_rows" 1992, .ref 1202⟩, ⟨hs P "log_beside", .str "log_beside" 2005, .ref 1210⟩, ⟨hs P "check_classes", .str "check_classes" 2015, .ref 1217⟩, ⟨hs P "own_letters", .str "own_letters" 2021, .ref 1222⟩, ⟨hs P "class_shown", .str "class_shown" 2030, .ref 1229⟩, ⟨hs P "sights_behind", .str "sights_behind" 2036, .ref 1234⟩, ⟨hs P "is_lot_empty", .str "is_lot_empty" 2042, .ref 1239⟩, ⟨hs P "is_lot_inhabited", .str "is_lot_inhabited" 2048, .ref 1244⟩, ⟨hs P "EMPTY", .str "EMPTY" 2052, .str "empty" 2051⟩, ⟨hs P "is_known", .str "is_known" 2061, .ref 1251⟩, ⟨hs P "lots_of_pictures", .str "lots_of_pictures" 2076, .ref 1259⟩, ⟨hs P "first_learned", .str "first_learned" 2084, .ref 1265⟩, ⟨hs P "are_classes", .str "are_classes" 2092, .ref 1270⟩, ⟨hs P "put_anew", .str "put_anew" 2098, .ref 1275⟩, ⟨hs P "Onlooker", .str "Onlooker" 2155, .ref 1313⟩]⟩ 194), ⟨[]⟩⟩
def o12_5 (P : Params) : Obj := ⟨.none, none, (.fields ⟨[.int 1 0, .int 0 0, .ref 20, .int 5 0, .int 0 0, .ref 27, .int 7 0, .int 0 0, .ref 41, .int 12 0, .int 0 0, .ref 62, .int 17 0, .int 0 0, .ref 83, .int 22 0, .int 0 0, .ref 104, .int 27 0, .int 0 0, .ref 125, .int 32 0, .int 0 0, .ref 146, .int 37 0, .int 0 0, .ref 166, .int 39 0, .int 0 0, .ref 179, .int 44 0, .int 0 0, .ref 200, .int 49 0, .int 0 0, .ref 221, .int 54 0, .int 0 0, .ref 242, .int 59 0, .int 0 0, .ref 263, .int 64 0, .int 0 0, .ref 284, .int 69 0, .int 0 0, .ref 304, .int 71 0, .int 0 0, .ref 316, .int 73 0, .int 0 0, .ref 328, .int 82 0, .int 0 0, .ref 343, .int 93 0, .int 0 0, .ref 350, .int 114 0, .int 0 0, .ref 355, .int 121 0, .int 0 0, .ref 360, .int 124 0, .int 0 0, .ref 367, .int 126 0, .int 0 0, .ref 372, .int 131 0, .int 0 0, .ref 377, .int 133 0, .int 0 0, .ref 384, .int 135 0, .int 0 0, .ref 391, .int 137 0, .int 0 0, .ref 398, .int 139 0, .int 0 0, .ref 403, .int 144 0, .int 0 0, .ref 408, .int 148 0, .int 0 0, .ref 415, .int 150 0, .int 0 0, .ref 422, .int 155 0, .int 0 0, .ref 427, .int 159 0, .int 0 0, .ref 434, .int 164 0, .int 0 0, .ref 439, .int 171 0, .int 0 0, .ref 444, .int 175 0, .int 0 0, .ref 449, .int 182 0, .int 0 0, .ref 456, .int 184 0, .int 0 0, .ref 463, .int 186 0, .int 0 0, .ref 468, .int 190 0, .int 0 0, .ref 473, .int 194 0, .int 0 0, .ref 478, .int 196 0, .int 0 0, .ref 483, .int 207 0, .int 0 0, .ref 490, .int 213 0, .int 0 0, .ref 497, .int 228 0, .int 0 0, .ref 504, .int 264 0, .int 0 0, .ref 559, .int 266 0, .int 0 0, .ref 564, .int 268 0, .int 0 0, .ref 569, .int 273 0, .int 0 0, .ref 574, .int 279 0, .int 0 0, .ref 579, .int 283 0, .int 0 0, .ref 584, .int 285 0, .int 0 0, .ref 589, .int 290 0, .int 0 0, .ref 594, .int 295 0, .int 0 0, .ref 599, .int 297 0, .int 0 0, .ref 604, .int 300 0, .int 0 0, .ref 611, .int 304 0, .int 0 0, .ref 616, .int 316 0, .int 0 0, .ref 621, .int 320 0, .int 0 0, .ref 626, .int 322 0, .int 0 0, .ref 631, .int 324 0, .int 0 0, .ref 638, .int 329 0, .int 0 0, .ref 645, .int 331 0, .int 0 0, .ref 650, .int 335 0, .int 0 0, .ref 655, .int 337 0, .int 0 0, .ref 660, .int 356 0, .int 0 0, .ref 667, .int 388 0, .int 0 0, .ref 724, .int 396 0, .int 0 0, .ref 731, .int 398 0, .int 0 0, .ref 736, .int 404 0, .int 0 0, .ref 743, .int 409 0, .int 0 0, .ref 750, .int 415 0, .int 0 0, .ref 757, .int 418 0, .int 0 0, .ref 762, .int 420 0, .int 0 0, .ref 767, .int 431 0, .int 0 0, .ref 774, .int 442 0, .int 0 0, .ref 781, .int 469 0, .int 0 0, .ref 824, .int 471 0, .int 0 0, .ref 831, .int 473 0, .int 0 0, .ref 838, .int 477 0, .int 0 0, .ref 845, .int 485 0, .int 0 0, .ref 850, .int 487 0, .int 0 0, .ref 857, .int 502 0, .int 0 0, .ref 865, .int 512 0, .int 0 0, .ref 873, .int 514 0, .int 0 0, .ref 878, .int 519 0, .int 0 0, .ref 884, .int 521 0, .int 0 0, .ref 889, .int 523 0, .int 0 0, .ref 896, .int 531 0, .int 0 0, .ref 917, .int 559 0, .int 0 0, .ref 964, .int 574 0, .int 0 0, .ref 971, .int 626 0, .int 0 0, .ref 1019, .int 636 0, .int 0 0, .ref 1024, .int 649 0, .int 0 0, .ref 1032, .int 655 0, .int 0 0, .ref 1040, .int 661 0, .int 0 0, .ref 1045, .int 666 0, .int 0 0, .ref 1050, .int 669 0, .int 0 0, .ref 1055, .int 671 0, .int 0 0, .ref 1060, .int 673 0, .int 0 0, .ref 1066, .int 680 0, .int 0 0, .ref 1073, .int 682 0, .int 0 0, .ref 1078, .int 684 0, .int 0 0, .ref 1085, .int 689 0, .int 0 0, .ref 1091, .int 698 0, .int 0 0, .ref 1098, .int 700 0, .int 0 0, .ref 1104, .int 704 0, .int 0 0, .ref 1109, .int 711 0, .int 0 0, .ref 1114, .int 720 0, .int 0 0, .ref 1119, .int 722 0, .int 0 0, .ref 1124, .int 734 0, .int 0 0, .ref 1129, .int 748 0, .int 0 0, .ref 1134, .int 750 0, .int 0 0, .ref 1141, .int 755 0, .int 0 0, .ref 1148, .int 757 0, .int 0 0, .ref 1155, .int 760 0, .int 0 0, .ref 1162, .int 766 0, .int 0 0, .ref 1167, .int 775 0, .int 0 0, .ref 1174, .int 777 0, .int 0 0, .ref 1182, .int 783 0, .int 0 0, .ref 1189, .int 785 0, .int 0 0, .ref 1194, .int 789 0, .int 0 0, .ref 1201, .int 801 0, .int 0 0, .ref 1209, .int 807 0, .int 0 0, .ref 1216, .int 810 0, .int 0 0, .ref 1221, .int 812 0, .int 0 0, .ref 1228, .int 814 0, .int 0 0, .ref 1233, .int 822 0, .int 0 0, .ref 1238, .int 824 0, .int 0 0, .ref 1243, .int 828 0, .int 0 0, .ref 1250, .int 830 0, .int 0 0, .ref 1258, .int 842 0, .int 0 0, .ref 1264, .int 860 0, .int 0 0, .ref 1269, .int 864 0, .int 0 0, .ref 1274, .int 869 0, .int 0 0, .ref 1281]⟩), ⟨[]⟩⟩
def o819 (P : Params) : Obj := ⟨.type "tuple", none, (.seq ⟨[]⟩ 0), ⟨[]⟩⟩
def o820 (P : Params) : Obj := ⟨.none, none, (.fields ⟨[]⟩), ⟨[]⟩⟩
def o821 (P : Params) : Obj := ⟨.type "tuple", none, (.seq ⟨[.str "ward" 1400]⟩ 0), ⟨[]⟩⟩
def o822 (P : Params) : Obj := ⟨.type "tuple", none, (.seq ⟨[]⟩ 0), ⟨[]⟩⟩
def o823 (P : Params) : Obj := ⟨.none, none, (.func ⟨"first_picture", "first_picture", dArgs (top 121), .stmts (dBody (top 121)), dScope (top 121), 0, [], .none, .none, .none, .none, none, .none, .none, 0⟩), ⟨[]⟩⟩
def o824 (P : Params) : Obj := ⟨.type "code", none, (.fields ⟨[.str "first_picture" 1397, .str "first_picture" 1398, .str "/claim/cut.py" 1399, .int 469 0, .int 1 0, .int 0 0, .int 0 0, .int 3 0, .ref 819, .bool true, .int 181 0, .ref 820, .none, .ref 821, .ref 822, .ref 823, .int 1401 0, .int 469 0, .str "/claim/cut.py" 1402]⟩), ⟨[]⟩⟩
def o825 (P : Params) : Obj := ⟨.type "function", none, (.func ⟨"first_picture", "first_picture", dArgs (top 121), .stmts (dBody (top 121)), dScope (top 121), 3, [], .none, .none, .none, .str "rulewardens.wards" 1297, none, .ref 824, .none, 0⟩), ⟨[]⟩⟩
def o826 (P : Params) : Obj := ⟨.type "tuple", none, (.seq ⟨[]⟩ 0), ⟨[]⟩⟩
def o827 (P : Params) : Obj := ⟨.none, none, (.fields ⟨[]⟩), ⟨[]⟩⟩
def o828 (P : Params) : Obj := ⟨.type "tuple", none, (.seq ⟨[.str "ward" 1407, .str "picture" 1408]⟩ 0), ⟨[]⟩⟩
def o829 (P : Params) : Obj := ⟨.type "tuple", none, (.seq ⟨[]⟩ 0), ⟨[]⟩⟩
def o830 (P : Params) : Obj := ⟨.none, none, (.func ⟨"choices_in", "choices_in", dArgs (top 122), .stmts (dBody (top 122)), dScope (top 122), 0, [], .none, .none, .none, .none, none, .none, .none, 0⟩), ⟨[]⟩⟩
def o831 (P : Params) : Obj := ⟨.type "code", none, (.fields ⟨[.str "choices_in" 1404, .str "choices_in" 1405, .str "/claim/cut.py" 1406, .int 471 0, .int 2 0, .int 0 0, .int 0 0, .int 3 0, .ref 826, .bool true, .int 181 0, .ref 827, .none, .ref 828, .ref 829, .ref 830, .int 1409 0, .int 471 0, .str "/claim/cut.py" 1410]⟩), ⟨[]⟩⟩
def o832 (P : Params) : Obj := ⟨.type "function", none, (.func ⟨"choices_in", "choices_in", dArgs (top 122), .stmts (dBody (top 122)), dScope (top 122), 3, [], .none, .none, .none, .str "rulewardens.wards" 1297, none, .ref 831, .none, 0⟩), ⟨[]⟩⟩
def o833 (P : Params) : Obj := ⟨.type "tuple", none, (.seq ⟨[]⟩ 0), ⟨[]⟩⟩
def o834 (P : Params) : Obj := ⟨.none, none, (.fields ⟨[]⟩), ⟨[]⟩⟩
def o835 (P : Params) : Obj := ⟨.type "tuple", none, (.seq ⟨[.str "ward" 1415, .str "picture" 1416, .str "choice" 1417, .str "where" 1418, .str "state" 1419, .str "heard" 1420]⟩ 0), ⟨[]⟩⟩
def o836 (P : Params) : Obj := ⟨.type "tuple", none, (.seq ⟨[]⟩ 0), ⟨[]⟩⟩
def o837 (P : Params) : Obj := ⟨.none, none, (.func ⟨"led_by", "led_by", dArgs (top 123), .stmts (dBody (top 123)), dScope (top 123), 0, [], .none, .none, .none, .none, none, .none, .none, 0⟩), ⟨[]⟩⟩
def o838 (P : Params) : Obj := ⟨.type "code", none, (.fields ⟨[.str "led_by" 1412, .str "led_by" 1413, .str "/claim/cut.py" 1414, .int 473 0, .int 3 0, .int 0 0, .int 0 0, .int 3 0, .ref 833, .bool true, .int 181 0, .ref 834, .none, .ref 835, .ref 836, .ref 837, .int 1421 0, .int 473 0, .str "/claim/cut.py" 1422]⟩), ⟨[]⟩⟩
def o839 (P : Params) : Obj := ⟨.type "function", none, (.func ⟨"led_by", "led_by", dArgs (top 123), .stmts (dBody (top 123)), dScope (top 123), 3, [], .none, .none, .none, .str "rulewardens.wards" 1297, none, .ref 838, .none, 0⟩), ⟨[]⟩⟩
def o840 (P : Params) : Obj := ⟨.type "tuple", none, (.seq ⟨[]⟩ 0), ⟨[]⟩⟩
def o841 (P : Params) : Obj := ⟨.none, none, (.fields ⟨[]⟩), ⟨[]⟩⟩
def o842 (P : Params) : Obj := ⟨.type "tuple", none, (.seq ⟨[.str "ward" 1427, .str "picture" 1428, .str "harm" 1429, .str "where" 1430, .str "state" 1431, .str "armed" 1432, .str "rings" 1433]⟩ 0), ⟨[]⟩⟩
def o843 (P : Params) : Obj := ⟨.type "tuple", none, (.seq ⟨[]⟩ 0), ⟨[]⟩⟩
def o844 (P : Params) : Obj := ⟨.none, none, (.func ⟨"has_harm", "has_harm", dArgs (top 124), .stmts (dBody (top 124)), dScope (top 124), 0, [], .none, .none, .none, .none, none, .none, .none, 0⟩), ⟨[]⟩⟩
def o845 (P : Params) : Obj := ⟨.type "code", none, (.fields ⟨[.str "has_harm" 1424, .str "has_harm" 1425, .str "/claim/cut.py" 1426, .int 477 0, .int 3 0, .int 0 0, .int 0 0, .int 3 0, .ref 840, .bool true, .int 181 0, .ref 841, .none, .ref 842, .ref 843, .ref 844, .int 1434 0, .int 477 0, .str "/claim/cut.py" 1435]⟩), ⟨[]⟩⟩
def o846 (P : Params) : Obj := ⟨.type "function", none, (.func ⟨"has_harm", "has_harm", dArgs (top 124), .stmts (dBody (top 124)), dScope (top 124), 3, [], .none, .none, .none, .str "rulewardens.wards" 1297, none, .ref 845, .none, 0⟩), ⟨[]⟩⟩
def o847 (P : Params) : Obj := ⟨.type "tuple", none, (.seq ⟨[]⟩ 0), ⟨[]⟩⟩
def o848 (P : Params) : Obj := ⟨.none, none, (.fields ⟨[]⟩), ⟨[]⟩⟩
def o849 (P : Params) : Obj := ⟨.none, none, (.func ⟨"next_pictures", "next_pictures", dArgs (top 125), .stmts (dBody (top 125)), dScope (top 125), 0, [], .none, .none, .none, .none, none, .none, .none, 0⟩), ⟨[]⟩⟩
def o850 (P : Params) : Obj := ⟨.type "code", none, (.fields ⟨[.str "next_pictures" 1437, .str "next_pictures" 1438, .str "/claim/cut.py" 1439, .int 485 0, .int 2 0, .int 0 0, .int 0 0, .int 3 0, .ref 847, .bool true, .int 181 0, .ref 848, .none, .none, .none, .ref 849, .int 1440 0, .int 485 0, .str "/claim/cut.py" 1441]⟩), ⟨[]⟩⟩
def o851 (P : Params) : Obj := ⟨.type "function", none, (.func ⟨"next_pictures", "next_pictures", dArgs (top 125), .stmts (dBody (top 125)), dScope (top 125), 3, [], .none, .none, .none, .str "rulewardens.wards" 1297, none, .ref 850, .none, 0⟩), ⟨[]⟩⟩
def o852 (P : Params) : Obj := ⟨.type "tuple", none, (.seq ⟨[]⟩ 0), ⟨[]⟩⟩
def o853 (P : Params) : Obj := ⟨.none, none, (.fields ⟨[]⟩), ⟨[]⟩⟩
def o854 (P : Params) : Obj := ⟨.type "tuple", none, (.seq ⟨[.str "ward" 1446, .str "most" 1447, .str "begin" 1448, .str "found" 1449, .str "order" 1450, .str "place" 1451, .str "picture" 1452, .str "choice" 1453, .str "further" 1454]⟩ 0), ⟨[]⟩⟩
def o855 (P : Params) : Obj := ⟨.type "tuple", none, (.seq ⟨[]⟩ 0), ⟨[]⟩⟩
def o856 (P : Params) : Obj := ⟨.none, none, (.func ⟨"first_runs", "first_runs", dArgs (top 126), .stmts (dBody (top 126)), dScope (top 126), 0, [], .none, .none, .none, .none, none, .none, .none, 0⟩), ⟨[]⟩⟩
def o857 (P : Params) : Obj := ⟨.type "code", none, (.fields ⟨[.str "first_runs" 1443, .str "first_runs" 1444, .str "/claim/cut.py" 1445, .int 487 0, .int 2 0, .int 0 0, .int 0 0, .int 3 0, .ref 852, .bool true, .int 181 0, .ref 853, .none, .ref 854, .ref 855, .ref 856, .int 1455 0, .int 487 0, .str "/claim/cut.py" 1456]⟩), ⟨[]⟩⟩
def o858 (P : Params) : Obj := ⟨.type "function", none, (.func ⟨"first_runs", "first_runs", dArgs (top 126), .stmts (dBody (top 126)), dScope (top 126), 3, [], .none, .none, .none, .str "rulewardens.wards" 1297, none, .ref 857, .none, 0⟩), ⟨[]⟩⟩
def o859 (P : Params) : Obj := ⟨.type "dict", none, (.dict ⟨[⟨hs P "most", .str "most" 1459, .int 60 1458⟩]⟩ 1), ⟨[]⟩⟩
def o860 (P : Params) : Obj := ⟨.type "tuple", none, (.seq ⟨[]⟩ 0), ⟨[]⟩⟩
def o861 (P : Params) : Obj := ⟨.none, none, (.fields ⟨[]⟩), ⟨[]⟩⟩
def o862 (P : Params) : Obj := ⟨.type "tuple", none, (.seq ⟨[.str "ward" 1463, .str "harms" 1464, .str "most" 1465, .str "runs" 1466, .str "picture" 1467, .str "harm" 1468]⟩ 0), ⟨[]⟩⟩
def o863 (P : Params) : Obj := ⟨.type "tuple", none, (.seq ⟨[]⟩ 0), ⟨[]⟩⟩
def o864 (P : Params) : Obj := ⟨.none, none, (.func ⟨"judge_ward", "judge_ward", dArgs (top 127), .stmts (dBody (top 127)), dScope (top 127), 0, [], .none, .none, .none, .none, none, .none, .none, 0⟩), ⟨[]⟩⟩
def o865 (P : Params) : Obj := ⟨.type "code", none, (.fields ⟨[.str "judge_ward" 1460, .str "judge_ward" 1461, .str "/claim/cut.py" 1462, .int 502 0, .int 2 0, .int 0 0, .int 1 0, .int 3 0, .ref 860, .bool true, .int 181 0, .ref 861, .none, .ref 862, .ref 863, .ref 864, .int 1469 0, .int 502 0, .str "/claim/cut.py" 1470]⟩), ⟨[]⟩⟩
def o866 (P : Params) : Obj := ⟨.type "function", none, (.func ⟨"judge_ward", "judge_ward", dArgs (top 127), .stmts (dBody (top 127)), dScope (top 127), 3, [], .none, .ref 859, .none, .str "rulewardens.wards" 1297, none, .ref 865, .none, 0⟩), ⟨[]⟩⟩
def o867 (P : Params) : Obj := ⟨.type "tuple", none, (.seq ⟨[]⟩ 0), ⟨[]⟩⟩
def o868 (P : Params) : Obj := ⟨.type "tuple", none, (.seq ⟨[]⟩ 0), ⟨[]⟩⟩
def o869 (P : Params) : Obj := ⟨.none, none, (.fields ⟨[]⟩), ⟨[]⟩⟩
def o870 (P : Params) : Obj := ⟨.type "tuple", none, (.seq ⟨[.str "faces" 1480, .str "choice" 1481]⟩ 0), ⟨[]⟩⟩
def o871 (P : Params) : Obj := ⟨.type "tuple", none, (.seq ⟨[]⟩ 0), ⟨[]⟩⟩
def o872 (P : Params) : Obj := ⟨.none, none, (.func ⟨"chosen_faces", "chosen_faces", dArgs (top 131), .stmts (dBody (top 131)), dScope (top 131), 0, [], .none, .none, .none, .none, none, .none, .none, 0⟩), ⟨[]⟩⟩
def o873 (P : Params) : Obj := ⟨.type "code", none, (.fields ⟨[.str "chosen_faces" 1477, .str "chosen_faces" 1478, .str "/claim/cut.py" 1479, .int 512 0, .int 2 0, .int 0 0, .int 0 0, .int 3 0, .ref 868, .bool true, .int 181 0, .ref 869, .none, .ref 870, .ref 871, .ref 872, .int 1482 0, .int 512 0, .str "/claim/cut.py" 1483]⟩), ⟨[]⟩⟩
def o874 (P : Params) : Obj := ⟨.type "function", none, (.func ⟨"chosen_faces", "chosen_faces", dArgs (top 131), .stmts (dBody (top 131)), dScope (top 131), 3, [], .none, .none, .none, .str "rulewardens.plays" 1472, none, .ref 873, .none, 0⟩), ⟨[]⟩⟩
def o875 (P : Params) : Obj := ⟨.type "tuple", none, (.seq ⟨[]⟩ 0), ⟨[]⟩⟩
def o876 (P : Params) : Obj := ⟨.none, none, (.fields ⟨[]⟩), ⟨[]⟩⟩
def o877 (P : Params) : Obj := ⟨.none, none, (.func ⟨"is_safe", "is_safe", dArgs (top 132), .stmts (dBody (top 132)), dScope (top 132), 0, [], .none, .none, .none, .none, none, .none, .none, 0⟩), ⟨[]⟩⟩
def o878 (P : Params) : Obj := ⟨.type "code", none, (.fields ⟨[.str "is_safe" 1485, .str "is_safe" 1486, .str "/claim/cut.py" 1487, .int 514 0, .int 4 0, .int 0 0, .int 0 0, .int 3 0, .ref 875, .bool true, .int 181 0, .ref 876, .none, .none, .none, .ref 877, .int 1488 0, .int 514 0, .str "/claim/cut.py" 1489]⟩), ⟨[]⟩⟩
def o879 (P : Params) : Obj := ⟨.type "function", none, (.func ⟨"is_safe", "is_safe", dArgs (top 132), .stmts (dBody (top 132)), dScope (top 132), 3, [], .none, .none, .none, .str "rulewardens.plays" 1472, none, .ref 878, .none, 0⟩), ⟨[]⟩⟩
def o880 (P : Params) : Obj := ⟨.type "dict", none, (.dict ⟨[⟨hs P "choice", .str "choice" 1491, .none⟩]⟩ 1), ⟨[]⟩⟩
def o881 (P : Params) : Obj := ⟨.type "tuple", none, (.seq ⟨[]⟩ 0), ⟨[]⟩⟩
def o882 (P : Params) : Obj := ⟨.none, none, (.fields ⟨[]⟩), ⟨[]⟩⟩
def o883 (P : Params) : Obj := ⟨.none, none, (.func ⟨"safe_faces", "safe_faces", dArgs (top 133), .stmts (dBody (top 133)), dScope (top 133), 0, [], .none, .none, .none, .none, none, .none, .none, 0⟩), ⟨[]⟩⟩
def o884 (P : Params) : Obj := ⟨.type "code", none, (.fields ⟨[.str "safe_faces" 1492, .str "safe_faces" 1493, .str "/claim/cut.py" 1494, .int 519 0, .int 4 0, .int 0 0, .int 1 0, .int 3 0, .ref 881, .bool true, .int 181 0, .ref 882, .none, .none, .none, .ref 883, .int 1495 0, .int 519 0, .str "/claim/cut.py" 1496]⟩), ⟨[]⟩⟩
def o885 (P : Params) : Obj := ⟨.type "function", none, (.func ⟨"safe_faces", "safe_faces", dArgs (top 133), .stmts (dBody (top 133)), dScope (top 133), 3, [], .none, .ref 880, .none, .str "rulewardens.plays" 1472, none, .ref 884, .none, 0⟩), ⟨[]⟩⟩
def o886 (P : Params) : Obj := ⟨.type "tuple", none, (.seq ⟨[]⟩ 0), ⟨[]⟩⟩
def o887 (P : Params) : Obj := ⟨.none, none, (.fields ⟨[]⟩), ⟨[]⟩⟩
def o888 (P : Params) : Obj := ⟨.none, none, (.func ⟨"is_waiting", "is_waiting", dArgs (top 134), .stmts (dBody (top 134)), dScope (top 134), 0, [], .none, .none, .none, .none, none, .none, .none, 0⟩), ⟨[]⟩⟩
def o889 (P : Params) : Obj := ⟨.type "code", none, (.fields ⟨[.str "is_waiting" 1498, .str "is_waiting" 1499, .str "/claim/cut.py" 1500, .int 521 0, .int 3 0, .int 0 0, .int 0 0, .int 3 0, .ref 886, .bool true, .int 181 0, .ref 887, .none, .none, .none, .ref 888, .int 1501 0, .int 521 0, .str "/claim/cut.py" 1502]⟩), ⟨[]⟩⟩
def o890 (P : Params) : Obj := ⟨.type "function", none, (.func ⟨"is_waiting", "is_waiting", dArgs (top 134), .stmts (dBody (top 134)), dScope (top 134), 3, [], .none, .none, .none, .str "rulewardens.plays" 1472, none, .ref 889, .none, 0⟩), ⟨[]⟩⟩
def o891 (P : Params) : Obj := ⟨.type "tuple", none, (.seq ⟨[]⟩ 0), ⟨[]⟩⟩
def o892 (P : Params) : Obj := ⟨.type "builtin_function_or_method", none, (.fields ⟨[.builtin "type.__prepare__", .type "type"]⟩), ⟨[]⟩⟩
def o893 (P : Params) : Obj := ⟨.type "dict", none, (.dict ⟨[⟨hs P "__module__", .str "__module__" 1511, .str "rulewardens.plays" 1472⟩, ⟨hs P "__qualname__", .str "__qualname__" 1513, .str "Spot" 1512⟩, ⟨hs P "__firstlineno__", .str "__firstlineno__" 1515, .int 523 1514⟩, ⟨hs P "__init__", .str "__init__" 1525, .ref 904⟩, ⟨hs P "__static_attributes__", .str "__static_attributes__" 1529, .ref 905⟩]⟩ 5), ⟨[]⟩⟩
def o894 (P : Params) : Obj := ⟨.type "tuple", none, (.seq ⟨[]⟩ 0), ⟨[]⟩⟩
def o895 (P : Params) : Obj := ⟨.none, none, (.fields ⟨[.int 525 0, .int 4 0, .ref 903]⟩), ⟨[]⟩⟩
def o896 (P : Params) : Obj := ⟨.type "code", none, (.fields ⟨[.str "Spot" 1506, .str "Spot" 1507, .str "/claim/cut.py" 1508, .int 523 0, .int 0 0, .int 0 0, .int 0 0, .int 0 0, .ref 894, .bool false, .int 181 0, .ref 895, .none, .none, .none, .none, .int 1509 0, .int 523 0, .str "/claim/cut.py" 1510]⟩), ⟨[]⟩⟩
def o897 (P : Params) : Obj := ⟨.type "frame", none, .plain, ⟨[(some (.ref 896)), (some (.ref 3)), (some (.ref 893)), none, (some (.str "rulewardens.plays" 1472)), none, (some (.ref 0))]⟩⟩
def o898 (P : Params) : Obj := ⟨.type "tuple", none, (.seq ⟨[]⟩ 0), ⟨[]⟩⟩
def o899 (P : Params) : Obj := ⟨.none, none, (.fields ⟨[]⟩), ⟨[]⟩⟩
def o900 (P : Params) : Obj := ⟨.type "tuple", none, (.seq ⟨[.str "self" 1519, .str "board" 1520, .str "lot" 1521, .str "number" 1522]⟩ 0), ⟨[]⟩⟩
def o901 (P : Params) : Obj := ⟨.type "tuple", none, (.seq ⟨[]⟩ 0), ⟨[]⟩⟩
def o902 (P : Params) : Obj := ⟨.none, none, (.func ⟨"__init__", "Spot.__init__", dArgs (inC (top 135) 0), .stmts (dBody (inC (top 135) 0)), dScope (inC (top 135) 0), 0, [], .none, .none, .none, .none, none, .none, .none, 0⟩), ⟨[]⟩⟩
def o903 (P : Params) : Obj := ⟨.type "code", none, (.fields ⟨[.str "__init__" 1516, .str "Spot.__init__" 1517, .str "/claim/cut.py" 1518, .int 525 0, .int 3 0, .int 0 0, .int 0 0, .int 3 0, .ref 898, .bool true, .int 181 0, .ref 899, .none, .ref 900, .ref 901, .ref 902, .int 1523 0, .int 525 0, .str "/claim/cut.py" 1524]⟩), ⟨[]⟩⟩
def o904 (P : Params) : Obj := ⟨.type "function", none, (.func ⟨"__init__", "Spot.__init__", dArgs (inC (top 135) 0), .stmts (dBody (inC (top 135) 0)), dScope (inC (top 135) 0), 3, [], .none, .none, .none, .str "rulewardens.plays" 1472, none, .ref 903, .none, 0⟩), ⟨[]⟩⟩
def o905 (P : Params) : Obj := ⟨.type "tuple", none, (.seq ⟨[.str "leads" 1526, .str "safe" 1527, .str "waits" 1528]⟩ 0), ⟨[]⟩⟩
def o906 (P : Params) : Obj := ⟨.type "dict", none, (.dict ⟨[⟨hs P "__module__", .str "__module__" 1511, .str "rulewardens.plays" 1472⟩, ⟨hs P "__firstlineno__", .str "__firstlineno__" 1515, .int 523 1514⟩, ⟨hs P "__init__", .str "__init__" 1525, .ref 904⟩, ⟨hs P "__static_attributes__", .str "__static_attributes__" 1529, .ref 905⟩, ⟨hs P "__dict__", .str "__dict__" 1531, .ref 908⟩, ⟨hs P "__weakref__", .str "__weakref__" 1533, .ref 909⟩, ⟨hs P "__doc__", .str "__doc__" 1534, .none⟩]⟩ 4), ⟨[]⟩⟩
def o907 (P : Params) : Obj := ⟨.type "type", none, (.cls ⟨"Spot", [.type "object"], [.ref 907, .type "object"], 906, "Spot", true, [], [], false, none, false⟩), ⟨[none, none, (some (.str "Spot" 1504)), (some (.str "Spot" 1512)), (some (.builtin "object.__new__")), (some (.bool true))]⟩⟩
def o908 (P : Params) : Obj := ⟨.type "getset_descriptor", none, (.fields ⟨[.str "__dict__" 1530, .ref 907, .builtin "function.__dict__", .builtin "function.__dict__#set"]⟩), ⟨[]⟩⟩
def o909 (P : Params) : Obj := ⟨.type "getset_descriptor", none, (.fields ⟨[.str "__weakref__" 1532, .ref 907, .builtin "ExceptionGroup.__weakref__", .none]⟩), ⟨[]⟩⟩
def o910 (P : Params) : Obj := ⟨.type "super", none, (.fields ⟨[.ref 907, .ref 907, .ref 907]⟩), ⟨[]⟩⟩
def o911 (P : Params) : Obj := ⟨.type "builtin_function_or_method", none, (.fields ⟨[.builtin "object.__init_subclass__", .ref 907]⟩), ⟨[]⟩⟩
def o912 (P : Params) : Obj := ⟨.type "tuple", none, (.seq ⟨[]⟩ 0), ⟨[]⟩⟩
def o913 (P : Params) : Obj := ⟨.type "builtin_function_or_method", none, (.fields ⟨[.builtin "type.__prepare__", .type "type"]⟩), ⟨[]⟩⟩
def o914 (P : Params) : Obj := ⟨.type "dict", none, (.dict ⟨[⟨hs P "__module__", .str "__module__" 1544, .str "rulewardens.plays" 1472⟩, ⟨hs P "__qualname__", .str "__qualname__" 1546, .str "Board" 1545⟩, ⟨hs P "__firstlineno__", .str "__firstlineno__" 1548, .int 531 1547⟩, ⟨hs P "__init__", .str "__init__" 1560, .ref 925⟩, ⟨hs P "spot", .str "spot" 1568, .ref 932⟩, ⟨hs P "is_armed", .str "is_armed" 1576, .ref 939⟩, ⟨hs P "can_arm", .str "can_arm" 1582, .ref 944⟩, ⟨hs P "silent_lot", .str "silent_lot" 1591, .ref 951⟩, ⟨hs P "__static_attributes__", .str "__static_attributes__" 1598, .ref 952⟩]⟩ 9), ⟨[]⟩⟩
def o915 (P : Params) : Obj := ⟨.type "tuple", none, (.seq ⟨[]⟩ 0), ⟨[]⟩⟩
def o916 (P : Params) : Obj := ⟨.none, none, (.fields ⟨[.int 533 0, .int 4 0, .ref 924, .int 541 0, .int 4 0, .ref 931, .int 546 0, .int 4 0, .ref 938, .int 549 0, .int 4 0, .ref 943, .int 552 0, .int 4 0, .ref 950]⟩), ⟨[]⟩⟩
def o917 (P : Params) : Obj := ⟨.type "code", none, (.fields ⟨[.str "Board" 1539, .str "Board" 1540, .str "/claim/cut.py" 1541, .int 531 0, .int 0 0, .int 0 0, .int 0 0, .int 0 0, .ref 915, .bool false, .int 181 0, .ref 916, .none, .none, .none, .none, .int 1542 0, .int 531 0, .str "/claim/cut.py" 1543]⟩), ⟨[]⟩⟩
def o918 (P : Params) : Obj := ⟨.type "frame", none, .plain, ⟨[(some (.ref 917)), (some (.ref 3)), (some (.ref 914)), none, (some (.str "rulewardens.plays" 1472)), none, (some (.ref 0))]⟩⟩
def o919 (P : Params) : Obj := ⟨.type "tuple", none, (.seq ⟨[]⟩ 0), ⟨[]⟩⟩
def o920 (P : Params) : Obj := ⟨.none, none, (.fields ⟨[]⟩), ⟨[]⟩⟩
def o921 (P : Params) : Obj := ⟨.type "tuple", none, (.seq ⟨[.str "self" 1552, .str "book" 1553, .str "faces" 1554, .str "harms" 1555, .str "ears" 1556, .str "choice" 1557]⟩ 0), ⟨[]⟩⟩
def o922 (P : Params) : Obj := ⟨.type "tuple", none, (.seq ⟨[]⟩ 0), ⟨[]⟩⟩
def o923 (P : Params) : Obj := ⟨.none, none, (.func ⟨"__init__", "Board.__init__", dArgs (inC (top 136) 0), .stmts (dBody (inC (top 136) 0)), dScope (inC (top 136) 0), 0, [], .none, .none, .none, .none, none, .none, .none, 0⟩), ⟨[]⟩⟩
def o924 (P : Params) : Obj := ⟨.type "code", none, (.fields ⟨[.str "__init__" 1549, .str "Board.__init__" 1550, .str "/claim/cut.py" 1551, .int 533 0, .int 6 0, .int 0 0, .int 0 0, .int 3 0, .ref 919, .bool true, .int 181 0, .ref 920, .none, .ref 921, .ref 922, .ref 923, .int 1558 0, .int 533 0, .str "/claim/cut.py" 1559]⟩), ⟨[]⟩⟩
def o925 (P : Params) : Obj := ⟨.type "function", none, (.func ⟨"__init__", "Board.__init__", dArgs (inC (top 136) 0), .stmts (dBody (inC (top 136) 0)), dScope (inC (top 136) 0), 3, [], .none, .none, .none, .str "rulewardens.plays" 1472, none, .ref 924, .none, 0⟩), ⟨[]⟩⟩
def o926 (P : Params) : Obj := ⟨.type "tuple", none, (.seq ⟨[]⟩ 0), ⟨[]⟩⟩
def o927 (P : Params) : Obj := ⟨.none, none, (.fields ⟨[]⟩), ⟨[]⟩⟩
def o928 (P : Params) : Obj := ⟨.type "tuple", none, (.seq ⟨[.str "self" 1564, .str "lot" 1565]⟩ 0), ⟨[]⟩⟩
def o929 (P : Params) : Obj := ⟨.type "tuple", none, (.seq ⟨[]⟩ 0), ⟨[]⟩⟩
def o930 (P : Params) : Obj := ⟨.none, none, (.func ⟨"spot", "Board.spot", dArgs (inC (top 136) 1), .stmts (dBody (inC (top 136) 1)), dScope (inC (top 136) 1), 0, [], .none, .none, .none, .none, none, .none, .none, 0⟩), ⟨[]⟩⟩
def o931 (P : Params) : Obj := ⟨.type "code", none, (.fields ⟨[.str "spot" 1561, .str "Board.spot" 1562, .str "/claim/cut.py" 1563, .int 541 0, .int 2 0, .int 0 0, .int 0 0, .int 3 0, .ref 926, .bool true, .int 181 0, .ref 927, .none, .ref 928, .ref 929, .ref 930, .int 1566 0, .int 541 0, .str "/claim/cut.py" 1567]⟩), ⟨[]⟩⟩
def o932 (P : Params) : Obj := ⟨.type "function", none, (.func ⟨"spot", "Board.spot", dArgs (inC (top 136) 1), .stmts (dBody (inC (top 136) 1)), dScope (inC (top 136) 1), 3, [], .none, .none, .none, .str "rulewardens.plays" 1472, none, .ref 931, .none, 0⟩), ⟨[]⟩⟩
def o933 (P : Params) : Obj := ⟨.type "tuple", none, (.seq ⟨[]⟩ 0), ⟨[]⟩⟩
def o934 (P : Params) : Obj := ⟨.none, none, (.fields ⟨[]⟩), ⟨[]⟩⟩
def o935 (P : Params) : Obj := ⟨.type "tuple", none, (.seq ⟨[.str "self" 1572, .str "number" 1573]⟩ 0), ⟨[]⟩⟩
def o936 (P : Params) : Obj := ⟨.type "tuple", none, (.seq ⟨[]⟩ 0), ⟨[]⟩⟩
def o937 (P : Params) : Obj := ⟨.none, none, (.func ⟨"is_armed", "Board.is_armed", dArgs (inC (top 136) 2), .stmts (dBody (inC (top 136) 2)), dScope (inC (top 136) 2), 0, [], .none, .none, .none, .none, none, .none, .none, 0⟩), ⟨[]⟩⟩
def o938 (P : Params) : Obj := ⟨.type "code", none, (.fields ⟨[.str "is_armed" 1569, .str "Board.is_armed" 1570, .str "/claim/cut.py" 1571, .int 546 0, .int 2 0, .int 0 0, .int 0 0, .int 3 0, .ref 933, .bool true, .int 181 0, .ref 934, .none, .ref 935, .ref 936, .ref 937, .int 1574 0, .int 546 0, .str "/claim/cut.py" 1575]⟩), ⟨[]⟩⟩
def o939 (P : Params) : Obj := ⟨.type "function", none, (.func ⟨"is_armed", "Board.is_armed", dArgs (inC (top 136) 2), .stmts (dBody (inC (top 136) 2)), dScope (inC (top 136) 2), 3, [], .none, .none, .none, .str "rulewardens.plays" 1472, none, .ref 938, .none, 0⟩), ⟨[]⟩⟩
def o940 (P : Params) : Obj := ⟨.type "tuple", none, (.seq ⟨[]⟩ 0), ⟨[]⟩⟩
def o941 (P : Params) : Obj := ⟨.none, none, (.fields ⟨[]⟩), ⟨[]⟩⟩
def o942 (P : Params) : Obj := ⟨.none, none, (.func ⟨"can_arm", "Board.can_arm", dArgs (inC (top 136) 3), .stmts (dBody (inC (top 136) 3)), dScope (inC (top 136) 3), 0, [], .none, .none, .none, .none, none, .none, .none, 0⟩), ⟨[]⟩⟩
def o943 (P : Params) : Obj := ⟨.type "code", none, (.fields ⟨[.str "can_arm" 1577, .str "Board.can_arm" 1578, .str "/claim/cut.py" 1579, .int 549 0, .int 1 0, .int 0 0, .int 0 0, .int 3 0, .ref 940, .bool true, .int 181 0, .ref 941, .none, .none, .none, .ref 942, .int 1580 0, .int 549 0, .str "/claim/cut.py" 1581]⟩), ⟨[]⟩⟩
def o944 (P : Params) : Obj := ⟨.type "function", none, (.func ⟨"can_arm", "Board.can_arm", dArgs (inC (top 136) 3), .stmts (dBody (inC (top 136) 3)), dScope (inC (top 136) 3), 3, [], .none, .none, .none, .str "rulewardens.plays" 1472, none, .ref 943, .none, 0⟩), ⟨[]⟩⟩
def o945 (P : Params) : Obj := ⟨.type "tuple", none, (.seq ⟨[]⟩ 0), ⟨[]⟩⟩
def o946 (P : Params) : Obj := ⟨.none, none, (.fields ⟨[]⟩), ⟨[]⟩⟩
def o947 (P : Params) : Obj := ⟨.type "tuple", none, (.seq ⟨[.str "self" 1586, .str "lot" 1587, .str "number" 1588]⟩ 0), ⟨[]⟩⟩
def o948 (P : Params) : Obj := ⟨.type "tuple", none, (.seq ⟨[]⟩ 0), ⟨[]⟩⟩
def o949 (P : Params) : Obj := ⟨.none, none, (.func ⟨"silent_lot", "Board.silent_lot", dArgs (inC (top 136) 4), .stmts (dBody (inC (top 136) 4)), dScope (inC (top 136) 4), 0, [], .none, .none, .none, .none, none, .none, .none, 0⟩), ⟨[]⟩⟩
def o950 (P : Params) : Obj := ⟨.type "code", none, (.fields ⟨[.str "silent_lot" 1583, .str "Board.silent_lot" 1584, .str "/claim/cut.py" 1585, .int 552 0, .int 3 0, .int 0 0, .int 0 0, .int 3 0, .ref 945, .bool true, .int 181 0, .ref 946, .none, .ref 947, .ref 948, .ref 949, .int 1589 0, .int 552 0, .str "/claim/cut.py" 1590]⟩), ⟨[]⟩⟩
def o951 (P : Params) : Obj := ⟨.type "function", none, (.func ⟨"silent_lot", "Board.silent_lot", dArgs (inC (top 136) 4), .stmts (dBody (inC (top 136) 4)), dScope (inC (top 136) 4), 3, [], .none, .none, .none, .str "rulewardens.plays" 1472, none, .ref 950, .none, 0⟩), ⟨[]⟩⟩
def o952 (P : Params) : Obj := ⟨.type "tuple", none, (.seq ⟨[.str "book_played" 1592, .str "ears_played" 1593, .str "faces_played" 1594, .str "harms_played" 1595, .str "numbers" 1596, .str "spots" 1597]⟩ 0), ⟨[]⟩⟩
def o953 (P : Params) : Obj := ⟨.type "dict", none, (.dict ⟨[⟨hs P "__module__", .str "__module__" 1544, .str "rulewardens.plays" 1472⟩, ⟨hs P "__firstlineno__", .str "__firstlineno__" 1548, .int 531 1547⟩, ⟨hs P "__init__", .str "__init__" 1560, .ref 925⟩, ⟨hs P "spot", .str "spot" 1568, .ref 932⟩, ⟨hs P "is_armed", .str "is_armed" 1576, .ref 939⟩, ⟨hs P "can_arm", .str "can_arm" 1582, .ref 944⟩, ⟨hs P "silent_lot", .str "silent_lot" 1591, .ref 951⟩, ⟨hs P "__static_attributes__", .str "__static_attributes__" 1598, .ref 952⟩, ⟨hs P "__dict__", .str "__dict__" 1600, .ref 955⟩, ⟨hs P "__weakref__", .str "__weakref__" 1602, .ref 956⟩, ⟨hs P "__doc__", .str "__doc__" 1603, .none⟩]⟩ 4), ⟨[]⟩⟩
def o954 (P : Params) : Obj := ⟨.type "type", none, (.cls ⟨"Board", [.type "object"], [.ref 954, .type "object"], 953, "Board", true, [], [], false, none, false⟩), ⟨[none, none, (some (.str "Board" 1537)), (some (.str "Board" 1545)), (some (.builtin "object.__new__")), (some (.bool true))]⟩⟩
def o955 (P : Params) : Obj := ⟨.type "getset_descriptor", none, (.fields ⟨[.str "__dict__" 1599, .ref 954, .builtin "function.__dict__", .builtin "function.__dict__#set"]⟩), ⟨[]⟩⟩
def o956 (P : Params) : Obj := ⟨.type "getset_descriptor", none, (.fields ⟨[.str "__weakref__" 1601, .ref 954, .builtin "ExceptionGroup.__weakref__", .none]⟩), ⟨[]⟩⟩
def o957 (P : Params) : Obj := ⟨.type "super", none, (.fields ⟨[.ref 954, .ref 954, .ref 954]⟩), ⟨[]⟩⟩
def o958 (P : Params) : Obj := ⟨.type "builtin_function_or_method", none, (.fields ⟨[.builtin "object.__init_subclass__", .ref 954]⟩), ⟨[]⟩⟩
def o959 (P : Params) : Obj := ⟨.type "tuple", none, (.seq ⟨[]⟩ 0), ⟨[]⟩⟩
def o960 (P : Params) : Obj := ⟨.none, none, (.fields ⟨[]⟩), ⟨[]⟩⟩
def o961 (P : Params) : Obj := ⟨.type "tuple", none, (.seq ⟨[.str "board" 1619, .str "most" 1620, .str "order" 1621, .str "known" 1622, .str "place" 1623, .str "spot" 1624, .str "number" 1625, .str "further" 1626]⟩ 0), ⟨[]⟩⟩
def o962 (P : Params) : Obj := ⟨.type "tuple", none, (.seq ⟨[]⟩ 0), ⟨[]⟩⟩
def o963 (P : Params) : Obj := ⟨.none, none, (.func ⟨"lots_played", "lots_played", dArgs (top 142), .stmts (dBody (top 142)), dScope (top 142), 0, [], .none, .none, .none, .none, none, .none, .none, 0⟩), ⟨[]⟩⟩
def o964 (P : Params) : Obj := ⟨.type "code", none, (.fields ⟨[.str "lots_played" 1616, .str "lots_played" 1617, .str "/claim/cut.py" 1618, .int 559 0, .int 2 0, .int 0 0, .int 0 0, .int 3 0, .ref 959, .bool true, .int 181 0, .ref 960, .none, .ref 961, .ref 962, .ref 963, .int 1627 0, .int 559 0, .str "/claim/cut.py" 1628]⟩), ⟨[]⟩⟩
def o965 (P : Params) : Obj := ⟨.type "function", none, (.func ⟨"lots_played", "lots_played", dArgs (top 142), .stmts (dBody (top 142)), dScope (top 142), 3, [], .none, .none, .none, .str "rulewardens.keepers" 1606, none, .ref 964, .none, 0⟩), ⟨[]⟩⟩
def o966 (P : Params) : Obj := ⟨.type "tuple", none, (.seq ⟨[]⟩ 0), ⟨[]⟩⟩
def o967 (P : Params) : Obj := ⟨.type "builtin_function_or_method", none, (.fields ⟨[.builtin "type.__prepare__", .type "type"]⟩), ⟨[]⟩⟩
def o968 (P : Params) : Obj := ⟨.type "dict", none, (.dict ⟨[⟨hs P "__module__", .str "__module__" 1637, .str "rulewardens.keepers" 1606⟩, ⟨hs P "__qualname__", .str "__qualname__" 1639, .str "Rounds" 1638⟩, ⟨hs P "__firstlineno__", .str "__firstlineno__" 1641, .int 574 1640⟩, ⟨hs P "__init__", .str "__init__" 1647, .ref 977⟩, ⟨hs P "stays", .str "stays" 1653, .ref 982⟩, ⟨hs P "staying_faces", .str "staying_faces" 1659, .ref 987⟩, ⟨hs P "ranking_face", .str "ranking_face" 1670, .ref 994⟩, ⟨hs P "ranked_lots", .str "ranked_lots" 1681, .ref 1001⟩, ⟨hs P "take_out", .str "take_out" 1687, .ref 1006⟩, ⟨hs P "__static_attributes__", .str "__static_attributes__" 1694, .ref 1007⟩]⟩ 10), ⟨[]⟩⟩
def o969 (P : Params) : Obj := ⟨.type "tuple", none, (.seq ⟨[]⟩ 0), ⟨[]⟩⟩
def o970 (P : Params) : Obj := ⟨.none, none, (.fields ⟨[.int 576 0, .int 4 0, .ref 976, .int 586 0, .int 4 0, .ref 981, .int 589 0, .int 4 0, .ref 986, .int 592 0, .int 4 0, .ref 993, .int 599 0, .int 4 0, .ref 1000, .int 611 0, .int 4 0, .ref 1005]⟩), ⟨[]⟩⟩
def o971 (P : Params) : Obj := ⟨.type "code", none, (.fields ⟨[.str "Rounds" 1632, .str "Rounds" 1633, .str "/claim/cut.py" 1634, .int 574 0, .int 0 0, .int 0 0, .int 0 0, .int 0 0, .ref 969, .bool false, .int 181 0, .ref 970, .none, .none, .none, .none, .int 1635 0, .int 574 0, .str "/claim/cut.py" 1636]⟩), ⟨[]⟩⟩
def o972 (P : Params) : Obj := ⟨.type "frame", none, .plain, ⟨[(some (.ref 971)), (some (.ref 3)), (some (.ref 968)), none, (some (.str "rulewardens.keepers" 1606)), none, (some (.ref 0))]⟩⟩
def o973 (P : Params) : Obj := ⟨.type "tuple", none, (.seq ⟨[]⟩ 0), ⟨[]⟩⟩
def o974 (P : Params) : Obj := ⟨.none, none, (.fields ⟨[]⟩), ⟨[]⟩⟩
def o975 (P : Params) : Obj := ⟨.none, none, (.func ⟨"__init__", "Rounds.__init__", dArgs (inC (top 143) 0), .stmts (dBody (inC (top 143) 0)), dScope (inC (top 143) 0), 0, [], .none, .none, .none, .none, none, .none, .none, 0⟩), ⟨[]⟩⟩
def o976 (P : Params) : Obj := ⟨.type "code", none, (.fields ⟨[.str "__init__" 1642, .str "Rounds.__init__" 1643, .str "/claim/cut.py" 1644, .int 576 0, .int 3 0, .int 0 0, .int 0 0, .int 3 0, .ref 973, .bool true, .int 181 0, .ref 974, .none, .none, .none, .ref 975, .int 1645 0, .int 576 0, .str "/claim/cut.py" 1646]⟩), ⟨[]⟩⟩
def o977 (P : Params) : Obj := ⟨.type "function", none, (.func ⟨"__init__", "Rounds.__init__", dArgs (inC (top 143) 0), .stmts (dBody (inC (top 143) 0)), dScope (inC (top 143) 0), 3, [], .none, .none, .none, .str "rulewardens.keepers" 1606, none, .ref 976, .none, 0⟩), ⟨[]⟩⟩
def o978 (P : Params) : Obj := ⟨.type "tuple", none, (.seq ⟨[]⟩ 0), ⟨[]⟩⟩
def o979 (P : Params) : Obj := ⟨.none, none, (.fields ⟨[]⟩), ⟨[]⟩⟩
def o980 (P : Params) : Obj := ⟨.none, none, (.func ⟨"stays", "Rounds.stays", dArgs (inC (top 143) 1), .stmts (dBody (inC (top 143) 1)), dScope (inC (top 143) 1), 0, [], .none, .none, .none, .none, none, .none, .none, 0⟩), ⟨[]⟩⟩
def o981 (P : Params) : Obj := ⟨.type "code", none, (.fields ⟨[.str "stays" 1648, .str "Rounds.stays" 1649, .str "/claim/cut.py" 1650, .int 586 0, .int 3 0, .int 0 0, .int 0 0, .int 3 0, .ref 978, .bool true, .int 181 0, .ref 979, .none, .none, .none, .ref 980, .int 1651 0, .int 586 0, .str "/claim/cut.py" 1652]⟩), ⟨[]⟩⟩
def o982 (P : Params) : Obj := ⟨.type "function", none, (.func ⟨"stays", "Rounds.stays", dArgs (inC (top 143) 1), .stmts (dBody (inC (top 143) 1)), dScope (inC (top 143) 1), 3, [], .none, .none, .none, .str "rulewardens.keepers" 1606, none, .ref 981, .none, 0⟩), ⟨[]⟩⟩
def o983 (P : Params) : Obj := ⟨.type "tuple", none, (.seq ⟨[]⟩ 0), ⟨[]⟩⟩
def o984 (P : Params) : Obj := ⟨.none, none, (.fields ⟨[]⟩), ⟨[]⟩⟩
def o985 (P : Params) : Obj := ⟨.none, none, (.func ⟨"staying_faces", "Rounds.staying_faces", dArgs (inC (top 143) 2), .stmts (dBody (inC (top 143) 2)), dScope (inC (top 143) 2), 0, [], .none, .none, .none, .none, none, .none, .none, 0⟩), ⟨[]⟩⟩
def o986 (P : Params) : Obj := ⟨.type "code", none, (.fields ⟨[.str "staying_faces" 1654, .str "Rounds.staying_faces" 1655, .str "/claim/cut.py" 1656, .int 589 0, .int 2 0, .int 0 0, .int 0 0, .int 3 0, .ref 983, .bool true, .int 181 0, .ref 984, .none, .none, .none, .ref 985, .int 1657 0, .int 589 0, .str "/claim/cut.py" 1658]⟩), ⟨[]⟩⟩
def o987 (P : Params) : Obj := ⟨.type "function", none, (.func ⟨"staying_faces", "Rounds.staying_faces", dArgs (inC (top 143) 2), .stmts (dBody (inC (top 143) 2)), dScope (inC (top 143) 2), 3, [], .none, .none, .none, .str "rulewardens.keepers" 1606, none, .ref 986, .none, 0⟩), ⟨[]⟩⟩
def o988 (P : Params) : Obj := ⟨.type "tuple", none, (.seq ⟨[]⟩ 0), ⟨[]⟩⟩
def o989 (P : Params) : Obj := ⟨.none, none, (.fields ⟨[]⟩), ⟨[]⟩⟩
def o990 (P : Params) : Obj := ⟨.type "tuple", none, (.seq ⟨[.str "self" 1663, .str "lot" 1664, .str "ranked" 1665, .str "number" 1666, .str "further" 1667]⟩ 0), ⟨[]⟩⟩
def o991 (P : Params) : Obj := ⟨.type "tuple", none, (.seq ⟨[]⟩ 0), ⟨[]⟩⟩
def o992 (P : Params) : Obj := ⟨.none, none, (.func ⟨"ranking_face", "Rounds.ranking_face", dArgs (inC (top 143) 3), .stmts (dBody (inC (top 143) 3)), dScope (inC (top 143) 3), 0, [], .none, .none, .none, .none, none, .none, .none, 0⟩), ⟨[]⟩⟩
def o993 (P : Params) : Obj := ⟨.type "code", none, (.fields ⟨[.str "ranking_face" 1660, .str "Rounds.ranking_face" 1661, .str "/claim/cut.py" 1662, .int 592 0, .int 3 0, .int 0 0, .int 0 0, .int 3 0, .ref 988, .bool true, .int 181 0, .ref 989, .none, .ref 990, .ref 991, .ref 992, .int 1668 0, .int 592 0, .str "/claim/cut.py" 1669]⟩), ⟨[]⟩⟩
def o994 (P : Params) : Obj := ⟨.type "function", none, (.func ⟨"ranking_face", "Rounds.ranking_face", dArgs (inC (top 143) 3), .stmts (dBody (inC (top 143) 3)), dScope (inC (top 143) 3), 3, [], .none, .none, .none, .str "rulewardens.keepers" 1606, none, .ref 993, .none, 0⟩), ⟨[]⟩⟩
def o995 (P : Params) : Obj := ⟨.type "tuple", none, (.seq ⟨[]⟩ 0), ⟨[]⟩⟩
def o996 (P : Params) : Obj := ⟨.none, none, (.fields ⟨[]⟩), ⟨[]⟩⟩
def o997 (P : Params) : Obj := ⟨.type "tuple", none, (.seq ⟨[.str "self" 1674, .str "ranked" 1675, .str "many" 1676, .str "lot" 1677, .str "number" 1678]⟩ 0), ⟨[]⟩⟩
def o998 (P : Params) : Obj := ⟨.type "tuple", none, (.seq ⟨[]⟩ 0), ⟨[]⟩⟩
def o999 (P : Params) : Obj := ⟨.none, none, (.func ⟨"ranked_lots", "Rounds.ranked_lots", dArgs (inC (top 143) 4), .stmts (dBody (inC (top 143) 4)), dScope (inC (top 143) 4), 0, [], .none, .none, .none, .none, none, .none, .none, 0⟩), ⟨[]⟩⟩
def o1000 (P : Params) : Obj := ⟨.type "code", none, (.fields ⟨[.str "ranked_lots" 1671, .str "Rounds.ranked_lots" 1672, .str "/claim/cut.py" 1673, .int 599 0, .int 1 0, .int 0 0, .int 0 0, .int 3 0, .ref 995, .bool true, .int 181 0, .ref 996, .none, .ref 997, .ref 998, .ref 999, .int 1679 0, .int 599 0, .str "/claim/cut.py" 1680]⟩), ⟨[]⟩⟩
def o1001 (P : Params) : Obj := ⟨.type "function", none, (.func ⟨"ranked_lots", "Rounds.ranked_lots", dArgs (inC (top 143) 4), .stmts (dBody (inC (top 143) 4)), dScope (inC (top 143) 4), 3, [], .none, .none, .none, .str "rulewardens.keepers" 1606, none, .ref 1000, .none, 0⟩), ⟨[]⟩⟩
def o1002 (P : Params) : Obj := ⟨.type "tuple", none, (.seq ⟨[]⟩ 0), ⟨[]⟩⟩
def o1003 (P : Params) : Obj := ⟨.none, none, (.fields ⟨[]⟩), ⟨[]⟩⟩
def o1004 (P : Params) : Obj := ⟨.none, none, (.func ⟨"take_out", "Rounds.take_out", dArgs (inC (top 143) 5), .stmts (dBody (inC (top 143) 5)), dScope (inC (top 143) 5), 0, [], .none, .none, .none, .none, none, .none, .none, 0⟩), ⟨[]⟩⟩
def o1005 (P : Params) : Obj := ⟨.type "code", none, (.fields ⟨[.str "take_out" 1682, .str "Rounds.take_out" 1683, .str "/claim/cut.py" 1684, .int 611 0, .int 1 0, .int 0 0, .int 0 0, .int 3 0, .ref 1002, .bool true, .int 181 0, .ref 1003, .none, .none, .none, .ref 1004, .int 1685 0, .int 611 0, .str "/claim/cut.py" 1686]⟩), ⟨[]⟩⟩
def o1006 (P : Params) : Obj := ⟨.type "function", none, (.func ⟨"take_out", "Rounds.take_out", dArgs (inC (top 143) 5), .stmts (dBody (inC (top 143) 5)), dScope (inC (top 143) 5), 3, [], .none, .none, .none, .str "rulewardens.keepers" 1606, none, .ref 1005, .none, 0⟩), ⟨[]⟩⟩
def o1007 (P : Params) : Obj := ⟨.type "tuple", none, (.seq ⟨[.str "board" 1688, .str "faces_kept" 1689, .str "faces_staying" 1690, .str "left" 1691, .str "number" 1692, .str "rows_out" 1693]⟩ 0), ⟨[]⟩⟩
def o1008 (P : Params) : Obj := ⟨.type "dict", none, (.dict ⟨[⟨hs P "__module__", .str "__module__" 1637, .str "rulewardens.keepers" 1606⟩, ⟨hs P "__firstlineno__", .str "__firstlineno__" 1641, .int 574 1640⟩, ⟨hs P "__init__", .str "__init__" 1647, .ref 977⟩, ⟨hs P "stays", .str "stays" 1653, .ref 982⟩, ⟨hs P "staying_faces", .str "staying_faces" 1659, .ref 987⟩, ⟨hs P "ranking_face", .str "ranking_face" 1670, .ref 994⟩, ⟨hs P "ranked_lots", .str "ranked_lots" 1681, .ref 1001⟩, ⟨hs P "take_out", .str "take_out" 1687, .ref 1006⟩, ⟨hs P "__static_attributes__", .str "__static_attributes__" 1694, .ref 1007⟩, ⟨hs P "__dict__", .str "__dict__" 1696, .ref 1010⟩, ⟨hs P "__weakref__", .str "__weakref__" 1698, .ref 1011⟩, ⟨hs P "__doc__", .str "__doc__" 1699, .none⟩]⟩ 4), ⟨[]⟩⟩
def o1009 (P : Params) : Obj := ⟨.type "type", none, (.cls ⟨"Rounds", [.type "object"], [.ref 1009, .type "object"], 1008, "Rounds", true, [], [], false, none, false⟩), ⟨[none, none, (some (.str "Rounds" 1630)), (some (.str "Rounds" 1638)), (some (.builtin "object.__new__")), (some (.bool true))]⟩⟩
def o1010 (P : Params) : Obj := ⟨.type "getset_descriptor", none, (.fields ⟨[.str "__dict__" 1695, .ref 1009, .builtin "function.__dict__", .builtin "function.__dict__#set"]⟩), ⟨[]⟩⟩
def o1011 (P : Params) : Obj := ⟨.type "getset_descriptor", none, (.fields ⟨[.str "__weakref__" 1697, .ref 1009, .builtin "ExceptionGroup.__weakref__", .none]⟩), ⟨[]⟩⟩
def o1012 (P : Params) : Obj := ⟨.type "super", none, (.fields ⟨[.ref 1009, .ref 1009, .ref 1009]⟩), ⟨[]⟩⟩
def o1013 (P : Params) : Obj := ⟨.type "builtin_function_or_method", none, (.fields ⟨[.builtin "object.__init_subclass__", .ref 1009]⟩), ⟨[]⟩⟩
def o1014 (P : Params) : Obj := ⟨.type "tuple", none, (.seq ⟨[]⟩ 0), ⟨[]⟩⟩
def o1015 (P : Params) : Obj := ⟨.none, none, (.fields ⟨[]⟩), ⟨[]⟩⟩
def o1016 (P : Params) : Obj := ⟨.type "tuple", none, (.seq ⟨[.str "board" 1705, .str "faces_kept" 1706, .str "order" 1707, .str "place" 1708, .str "lot" 1709, .str "further" 1710]⟩ 0), ⟨[]⟩⟩
def o1017 (P : Params) : Obj := ⟨.type "tuple", none, (.seq ⟨[]⟩ 0), ⟨[]⟩⟩
def o1018 (P : Params) : Obj := ⟨.none, none, (.func ⟨"lots_led", "lots_led", dArgs (top 144), .stmts (dBody (top 144)), dScope (top 144), 0, [], .none, .none, .none, .none, none, .none, .none, 0⟩), ⟨[]⟩⟩
def o1019 (P : Params) : Obj := ⟨.type "code", none, (.fields ⟨[.str "lots_led" 1702, .str "lots_led" 1703, .str "/claim/cut.py" 1704, .int 626 0, .int 2 0, .int 0 0, .int 0 0, .int 3 0, .ref 1014, .bool true, .int 181 0, .ref 1015, .none, .ref 1016, .ref 1017, .ref 1018, .int 1711 0, .int 626 0, .str "/claim/cut.py" 1712]⟩), ⟨[]⟩⟩
def o1020 (P : Params) : Obj := ⟨.type "function", none, (.func ⟨"lots_led", "lots_led", dArgs (top 144), .stmts (dBody (top 144)), dScope (top 144), 3, [], .none, .none, .none, .str "rulewardens.keepers" 1606, none, .ref 1019, .none, 0⟩), ⟨[]⟩⟩
def o1021 (P : Params) : Obj := ⟨.type "tuple", none, (.seq ⟨[]⟩ 0), ⟨[]⟩⟩
def o1022 (P : Params) : Obj := ⟨.none, none, (.fields ⟨[]⟩), ⟨[]⟩⟩
def o1023 (P : Params) : Obj := ⟨.none, none, (.func ⟨"kept_paper", "kept_paper", dArgs (top 145), .stmts (dBody (top 145)), dScope (top 145), 0, [], .none, .none, .none, .none, none, .none, .none, 0⟩), ⟨[]⟩⟩
def o1024 (P : Params) : Obj := ⟨.type "code", none, (.fields ⟨[.str "kept_paper" 1714, .str "kept_paper" 1715, .str "/claim/cut.py" 1716, .int 636 0, .int 2 0, .int 0 0, .int 0 0, .int 3 0, .ref 1021, .bool true, .int 181 0, .ref 1022, .none, .none, .none, .ref 1023, .int 1717 0, .int 636 0, .str "/claim/cut.py" 1718]⟩), ⟨[]⟩⟩
def o1025 (P : Params) : Obj := ⟨.type "function", none, (.func ⟨"kept_paper", "kept_paper", dArgs (top 145), .stmts (dBody (top 145)), dScope (top 145), 3, [], .none, .none, .none, .str "rulewardens.keepers" 1606, none, .ref 1024, .none, 0⟩), ⟨[]⟩⟩
def o1026 (P : Params) : Obj := ⟨.type "dict", none, (.dict ⟨[⟨hs P "ears", .str "ears" 1721, .none⟩, ⟨hs P "choice", .str "choice" 1722, .none⟩, ⟨hs P "most", .str "most" 1723, .int 60 1720⟩]⟩ 3), ⟨[]⟩⟩
def o1027 (P : Params) : Obj := ⟨.type "tuple", none, (.seq ⟨[]⟩ 0), ⟨[]⟩⟩
def o1028 (P : Params) : Obj := ⟨.none, none, (.fields ⟨[]⟩), ⟨[]⟩⟩
def o1029 (P : Params) : Obj := ⟨.type "tuple", none, (.seq ⟨[.str "book" 1727, .str "faces" 1728, .str "harms" 1729, .str "ears" 1730, .str "choice" 1731, .str "most" 1732, .str "board" 1733, .str "rounds" 1734]⟩ 0), ⟨[]⟩⟩
def o1030 (P : Params) : Obj := ⟨.type "tuple", none, (.seq ⟨[]⟩ 0), ⟨[]⟩⟩
def o1031 (P : Params) : Obj := ⟨.none, none, (.func ⟨"judge_keeping", "judge_keeping", dArgs (top 146), .stmts (dBody (top 146)), dScope (top 146), 0, [], .none, .none, .none, .none, none, .none, .none, 0⟩), ⟨[]⟩⟩
def o1032 (P : Params) : Obj := ⟨.type "code", none, (.fields ⟨[.str "judge_keeping" 1724, .str "judge_keeping" 1725, .str "/claim/cut.py" 1726, .int 649 0, .int 3 0, .int 0 0, .int 3 0, .int 3 0, .ref 1027, .bool true, .int 181 0, .ref 1028, .none, .ref 1029, .ref 1030, .ref 1031, .int 1735 0, .int 649 0, .str "/claim/cut.py" 1736]⟩), ⟨[]⟩⟩
def o1033 (P : Params) : Obj := ⟨.type "function", none, (.func ⟨"judge_keeping", "judge_keeping", dArgs (top 146), .stmts (dBody (top 146)), dScope (top 146), 3, [], .none, .ref 1026, .none, .str "rulewardens.keepers" 1606, none, .ref 1032, .none, 0⟩), ⟨[]⟩⟩
def o1034 (P : Params) : Obj := ⟨.type "dict", none, (.dict ⟨[⟨hs P "ears", .str "ears" 1739, .none⟩, ⟨hs P "choice", .str "choice" 1740, .none⟩, ⟨hs P "most", .str "most" 1741, .int 60 1738⟩]⟩ 3), ⟨[]⟩⟩
def o1035 (P : Params) : Obj := ⟨.type "tuple", none, (.seq ⟨[]⟩ 0), ⟨[]⟩⟩
def o1036 (P : Params) : Obj := ⟨.none, none, (.fields ⟨[]⟩), ⟨[]⟩⟩
def o1037 (P : Params) : Obj := ⟨.type "tuple", none, (.seq ⟨[.str "book" 1745, .str "faces" 1746, .str "harms" 1747, .str "ears" 1748, .str "choice" 1749, .str "most" 1750]⟩ 0), ⟨[]⟩⟩
def o1038 (P : Params) : Obj := ⟨.type "tuple", none, (.seq ⟨[]⟩ 0), ⟨[]⟩⟩
def o1039 (P : Params) : Obj := ⟨.none, none, (.func ⟨"can_keep", "can_keep", dArgs (top 147), .stmts (dBody (top 147)), dScope (top 147), 0, [], .none, .none, .none, .none, none, .none, .none, 0⟩), ⟨[]⟩⟩
def o1040 (P : Params) : Obj := ⟨.type "code", none, (.fields ⟨[.str "can_keep" 1742, .str "can_keep" 1743, .str "/claim/cut.py" 1744, .int 655 0, .int 3 0, .int 0 0, .int 3 0, .int 3 0, .ref 1035, .bool true, .int 181 0, .ref 1036, .none, .ref 1037, .ref 1038, .ref 1039, .int 1751 0, .int 655 0, .str "/claim/cut.py" 1752]⟩), ⟨[]⟩⟩
def o1041 (P : Params) : Obj := ⟨.type "function", none, (.func ⟨"can_keep", "can_keep", dArgs (top 147), .stmts (dBody (top 147)), dScope (top 147), 3, [], .none, .ref 1034, .none, .str "rulewardens.keepers" 1606, none, .ref 1040, .none, 0⟩), ⟨[]⟩⟩
def o1042 (P : Params) : Obj := ⟨.type "tuple", none, (.seq ⟨[]⟩ 0), ⟨[]⟩⟩
def o1043 (P : Params) : Obj := ⟨.none, none, (.fields ⟨[]⟩), ⟨[]⟩⟩
def o1044 (P : Params) : Obj := ⟨.none, none, (.func ⟨"sublists", "sublists", dArgs (top 152), .stmts (dBody (top 152)), dScope (top 152), 0, [], .none, .none, .none, .none, none, .none, .none, 0⟩), ⟨[]⟩⟩
def o1045 (P : Params) : Obj := ⟨.type "code", none, (.fields ⟨[.str "sublists" 1762, .str "sublists" 1763, .str "/claim/cut.py" 1764, .int 661 0, .int 1 0, .int 0 0, .int 0 0, .int 3 0, .ref 1042, .bool true, .int 181 0, .ref 1043, .none, .none, .none, .ref 1044, .int 1765 0, .int 661 0, .str "/claim/cut.py" 1766]⟩), ⟨[]⟩⟩
def o1046 (P : Params) : Obj := ⟨.type "function", none, (.func ⟨"sublists", "sublists", dArgs (top 152), .stmts (dBody (top 152)), dScope (top 152), 3, [], .none, .none, .none, .str "rulewardens.ears" 1754, none, .ref 1045, .none, 0⟩), ⟨[]⟩⟩
def o1047 (P : Params) : Obj := ⟨.type "tuple", none, (.seq ⟨[]⟩ 0), ⟨[]⟩⟩
def o1048 (P : Params) : Obj := ⟨.none, none, (.fields ⟨[]⟩), ⟨[]⟩⟩
def o1049 (P : Params) : Obj := ⟨.none, none, (.func ⟨"all_ears", "all_ears", dArgs (top 153), .stmts (dBody (top 153)), dScope (top 153), 0, [], .none, .none, .none, .none, none, .none, .none, 0⟩), ⟨[]⟩⟩
def o1050 (P : Params) : Obj := ⟨.type "code", none, (.fields ⟨[.str "all_ears" 1768, .str "all_ears" 1769, .str "/claim/cut.py" 1770, .int 666 0, .int 1 0, .int 0 0, .int 0 0, .int 3 0, .ref 1047, .bool true, .int 181 0, .ref 1048, .none, .none, .none, .ref 1049, .int 1771 0, .int 666 0, .str "/claim/cut.py" 1772]⟩), ⟨[]⟩⟩
def o1051 (P : Params) : Obj := ⟨.type "function", none, (.func ⟨"all_ears", "all_ears", dArgs (top 153), .stmts (dBody (top 153)), dScope (top 153), 3, [], .none, .none, .none, .str "rulewardens.ears" 1754, none, .ref 1050, .none, 0⟩), ⟨[]⟩⟩
def o1052 (P : Params) : Obj := ⟨.type "tuple", none, (.seq ⟨[]⟩ 0), ⟨[]⟩⟩
def o1053 (P : Params) : Obj := ⟨.none, none, (.fields ⟨[]⟩), ⟨[]⟩⟩
def o1054 (P : Params) : Obj := ⟨.none, none, (.func ⟨"is_within_set", "is_within_set", dArgs (top 154), .stmts (dBody (top 154)), dScope (top 154), 0, [], .none, .none, .none, .none, none, .none, .none, 0⟩), ⟨[]⟩⟩
def o1055 (P : Params) : Obj := ⟨.type "code", none, (.fields ⟨[.str "is_within_set" 1774, .str "is_within_set" 1775, .str "/claim/cut.py" 1776, .int 669 0, .int 2 0, .int 0 0, .int 0 0, .int 3 0, .ref 1052, .bool true, .int 181 0, .ref 1053, .none, .none, .none, .ref 1054, .int 1777 0, .int 669 0, .str "/claim/cut.py" 1778]⟩), ⟨[]⟩⟩
def o1056 (P : Params) : Obj := ⟨.type "function", none, (.func ⟨"is_within_set", "is_within_set", dArgs (top 154), .stmts (dBody (top 154)), dScope (top 154), 3, [], .none, .none, .none, .str "rulewardens.ears" 1754, none, .ref 1055, .none, 0⟩), ⟨[]⟩⟩
def o1057 (P : Params) : Obj := ⟨.type "tuple", none, (.seq ⟨[]⟩ 0), ⟨[]⟩⟩
def o1058 (P : Params) : Obj := ⟨.none, none, (.fields ⟨[]⟩), ⟨[]⟩⟩
def o1059 (P : Params) : Obj := ⟨.none, none, (.func ⟨"least_among", "least_among", dArgs (top 155), .stmts (dBody (top 155)), dScope (top 155), 0, [], .none, .none, .none, .none, none, .none, .none, 0⟩), ⟨[]⟩⟩
def o1060 (P : Params) : Obj := ⟨.type "code", none, (.fields ⟨[.str "least_among" 1780, .str "least_among" 1781, .str "/claim/cut.py" 1782, .int 671 0, .int 1 0, .int 0 0, .int 0 0, .int 3 0, .ref 1057, .bool true, .int 181 0, .ref 1058, .none, .none, .none, .ref 1059, .int 1783 0, .int 671 0, .str "/claim/cut.py" 1784]⟩), ⟨[]⟩⟩
def o1061 (P : Params) : Obj := ⟨.type "function", none, (.func ⟨"least_among", "least_among", dArgs (top 155), .stmts (dBody (top 155)), dScope (top 155), 3, [], .none, .none, .none, .str "rulewardens.ears" 1754, none, .ref 1060, .none, 0⟩), ⟨[]⟩⟩
def o1062 (P : Params) : Obj := ⟨.type "dict", none, (.dict ⟨[⟨hs P "choice", .str "choice" 1786, .none⟩, ⟨hs P "most", .str "most" 1787, .int 60 1760⟩]⟩ 2), ⟨[]⟩⟩
def o1063 (P : Params) : Obj := ⟨.type "tuple", none, (.seq ⟨[]⟩ 0), ⟨[]⟩⟩
def o1064 (P : Params) : Obj := ⟨.none, none, (.fields ⟨[]⟩), ⟨[]⟩⟩
def o1065 (P : Params) : Obj := ⟨.none, none, (.func ⟨"least_ears", "least_ears", dArgs (top 156), .stmts (dBody (top 156)), dScope (top 156), 0, [], .none, .none, .none, .none, none, .none, .none, 0⟩), ⟨[]⟩⟩
def o1066 (P : Params) : Obj := ⟨.type "code", none, (.fields ⟨[.str "least_ears" 1788, .str "least_ears" 1789, .str "/claim/cut.py" 1790, .int 673 0, .int 3 0, .int 0 0, .int 2 0, .int 3 0, .ref 1063, .bool true, .int 181 0, .ref 1064, .none, .none, .none, .ref 1065, .int 1791 0, .int 673 0, .str "/claim/cut.py" 1792]⟩), ⟨[]⟩⟩
def o1067 (P : Params) : Obj := ⟨.type "function", none, (.func ⟨"least_ears", "least_ears", dArgs (top 156), .stmts (dBody (top 156)), dScope (top 156), 3, [], .none, .ref 1062, .none, .str "rulewardens.ears" 1754, none, .ref 1066, .none, 0⟩), ⟨[]⟩⟩
def o1068 (P : Params) : Obj := ⟨.type "tuple", none, (.seq ⟨[]⟩ 0), ⟨[]⟩⟩
def o1069 (P : Params) : Obj := ⟨.none, none, (.fields ⟨[]⟩), ⟨[]⟩⟩
def o1070 (P : Params) : Obj := ⟨.type "tuple", none, (.seq ⟨[.str "book" 1805, .str "bar" 1806]⟩ 0), ⟨[]⟩⟩
def o1071 (P : Params) : Obj := ⟨.type "tuple", none, (.seq ⟨[]⟩ 0), ⟨[]⟩⟩
def o1072 (P : Params) : Obj := ⟨.none, none, (.func ⟨"barred_book", "barred_book", dArgs (top 161), .stmts (dBody (top 161)), dScope (top 161), 0, [], .none, .none, .none, .none, none, .none, .none, 0⟩), ⟨[]⟩⟩
def o1073 (P : Params) : Obj := ⟨.type "code", none, (.fields ⟨[.str "barred_book" 1802, .str "barred_book" 1803, .str "/claim/cut.py" 1804, .int 680 0, .int 2 0, .int 0 0, .int 0 0, .int 3 0, .ref 1068, .bool true, .int 181 0, .ref 1069, .none, .ref 1070, .ref 1071, .ref 1072, .int 1807 0, .int 680 0, .str "/claim/cut.py" 1808]⟩), ⟨[]⟩⟩
def o1074 (P : Params) : Obj := ⟨.type "function", none, (.func ⟨"barred_book", "barred_book", dArgs (top 161), .stmts (dBody (top 161)), dScope (top 161), 3, [], .none, .none, .none, .str "rulewardens.bars" 1794, none, .ref 1073, .none, 0⟩), ⟨[]⟩⟩
def o1075 (P : Params) : Obj := ⟨.type "tuple", none, (.seq ⟨[]⟩ 0), ⟨[]⟩⟩
def o1076 (P : Params) : Obj := ⟨.none, none, (.fields ⟨[]⟩), ⟨[]⟩⟩
def o1077 (P : Params) : Obj := ⟨.none, none, (.func ⟨"bars_of_size", "bars_of_size", dArgs (top 162), .stmts (dBody (top 162)), dScope (top 162), 0, [], .none, .none, .none, .none, none, .none, .none, 0⟩), ⟨[]⟩⟩
def o1078 (P : Params) : Obj := ⟨.type "code", none, (.fields ⟨[.str "bars_of_size" 1810, .str "bars_of_size" 1811, .str "/claim/cut.py" 1812, .int 682 0, .int 2 0, .int 0 0, .int 0 0, .int 3 0, .ref 1075, .bool true, .int 181 0, .ref 1076, .none, .none, .none, .ref 1077, .int 1813 0, .int 682 0, .str "/claim/cut.py" 1814]⟩), ⟨[]⟩⟩
def o1079 (P : Params) : Obj := ⟨.type "function", none, (.func ⟨"bars_of_size", "bars_of_size", dArgs (top 162), .stmts (dBody (top 162)), dScope (top 162), 3, [], .none, .none, .none, .str "rulewardens.bars" 1794, none, .ref 1078, .none, 0⟩), ⟨[]⟩⟩
def o1080 (P : Params) : Obj := ⟨.type "tuple", none, (.seq ⟨[]⟩ 0), ⟨[]⟩⟩
def o1081 (P : Params) : Obj := ⟨.none, none, (.fields ⟨[]⟩), ⟨[]⟩⟩
def o1082 (P : Params) : Obj := ⟨.type "tuple", none, (.seq ⟨[.str "book" 1819, .str "faces" 1820, .str "harms" 1821, .str "size" 1822, .str "most" 1823, .str "found" 1824, .str "bar" 1825]⟩ 0), ⟨[]⟩⟩
def o1083 (P : Params) : Obj := ⟨.type "tuple", none, (.seq ⟨[]⟩ 0), ⟨[]⟩⟩
def o1084 (P : Params) : Obj := ⟨.none, none, (.func ⟨"bars_judged", "bars_judged", dArgs (top 163), .stmts (dBody (top 163)), dScope (top 163), 0, [], .none, .none, .none, .none, none, .none, .none, 0⟩), ⟨[]⟩⟩
def o1085 (P : Params) : Obj := ⟨.type "code", none, (.fields ⟨[.str "bars_judged" 1816, .str "bars_judged" 1817, .str "/claim/cut.py" 1818, .int 684 0, .int 5 0, .int 0 0, .int 0 0, .int 3 0, .ref 1080, .bool true, .int 181 0, .ref 1081, .none, .ref 1082, .ref 1083, .ref 1084, .int 1826 0, .int 684 0, .str "/claim/cut.py" 1827]⟩), ⟨[]⟩⟩
def o1086 (P : Params) : Obj := ⟨.type "function", none, (.func ⟨"bars_judged", "bars_judged", dArgs (top 163), .stmts (dBody (top 163)), dScope (top 163), 3, [], .none, .none, .none, .str "rulewardens.bars" 1794, none, .ref 1085, .none, 0⟩), ⟨[]⟩⟩
def o1087 (P : Params) : Obj := ⟨.type "dict", none, (.dict ⟨[⟨hs P "greatest", .str "greatest" 1829, .int 3 1800⟩, ⟨hs P "most", .str "most" 1830, .int 60 1760⟩]⟩ 2), ⟨[]⟩⟩
def o1088 (P : Params) : Obj := ⟨.type "tuple", none, (.seq ⟨[]⟩ 0), ⟨[]⟩⟩
def o1089 (P : Params) : Obj := ⟨.none, none, (.fields ⟨[]⟩), ⟨[]⟩⟩
def o1090 (P : Params) : Obj := ⟨.none, none, (.func ⟨"bars_paper", "bars_paper", dArgs (top 164), .stmts (dBody (top 164)), dScope (top 164), 0, [], .none, .none, .none, .none, none, .none, .none, 0⟩), ⟨[]⟩⟩
def o1091 (P : Params) : Obj := ⟨.type "code", none, (.fields ⟨[.str "bars_paper" 1831, .str "bars_paper" 1832, .str "/claim/cut.py" 1833, .int 689 0, .int 3 0, .int 0 0, .int 2 0, .int 3 0, .ref 1088, .bool true, .int 181 0, .ref 1089, .none, .none, .none, .ref 1090, .int 1834 0, .int 689 0, .str "/claim/cut.py" 1835]⟩), ⟨[]⟩⟩
def o1092 (P : Params) : Obj := ⟨.type "function", none, (.func ⟨"bars_paper", "bars_paper", dArgs (top 164), .stmts (dBody (top 164)), dScope (top 164), 3, [], .none, .ref 1087, .none, .str "rulewardens.bars" 1794, none, .ref 1091, .none, 0⟩), ⟨[]⟩⟩
def o1093 (P : Params) : Obj := ⟨.type "tuple", none, (.seq ⟨[]⟩ 0), ⟨[]⟩⟩
def o1094 (P : Params) : Obj := ⟨.none, none, (.fields ⟨[]⟩), ⟨[]⟩⟩
def o1095 (P : Params) : Obj := ⟨.type "tuple", none, (.seq ⟨[.str "pair" 1840]⟩ 0), ⟨[]⟩⟩
def o1096 (P : Params) : Obj := ⟨.type "tuple", none, (.seq ⟨[]⟩ 0), ⟨[]⟩⟩
def o1097 (P : Params) : Obj := ⟨.none, none, (.func ⟨"first_part", "first_part", dArgs (top 165), .stmts (dBody (top 165)), dScope (top 165), 0, [], .none, .none, .none, .none, none, .none, .none, 0⟩), ⟨[]⟩⟩
def o1098 (P : Params) : Obj := ⟨.type "code", none, (.fields ⟨[.str "first_part" 1837, .str "first_part" 1838, .str "/claim/cut.py" 1839, .int 698 0, .int 1 0, .int 0 0, .int 0 0, .int 3 0, .ref 1093, .bool true, .int 181 0, .ref 1094, .none, .ref 1095, .ref 1096, .ref 1097, .int 1841 0, .int 698 0, .str "/claim/cut.py" 1842]⟩), ⟨[]⟩⟩
def o1099 (P : Params) : Obj := ⟨.type "function", none, (.func ⟨"first_part", "first_part", dArgs (top 165), .stmts (dBody (top 165)), dScope (top 165), 3, [], .none, .none, .none, .str "rulewardens.bars" 1794, none, .ref 1098, .none, 0⟩), ⟨[]⟩⟩
def o1100 (P : Params) : Obj := ⟨.type "dict", none, (.dict ⟨[⟨hs P "greatest", .str "greatest" 1844, .int 3 1800⟩, ⟨hs P "most", .str "most" 1845, .int 60 1760⟩]⟩ 2), ⟨[]⟩⟩
def o1101 (P : Params) : Obj := ⟨.type "tuple", none, (.seq ⟨[]⟩ 0), ⟨[]⟩⟩
def o1102 (P : Params) : Obj := ⟨.none, none, (.fields ⟨[]⟩), ⟨[]⟩⟩
def o1103 (P : Params) : Obj := ⟨.none, none, (.func ⟨"fewest_bars", "fewest_bars", dArgs (top 166), .stmts (dBody (top 166)), dScope (top 166), 0, [], .none, .none, .none, .none, none, .none, .none, 0⟩), ⟨[]⟩⟩
def o1104 (P : Params) : Obj := ⟨.type "code", none, (.fields ⟨[.str "fewest_bars" 1846, .str "fewest_bars" 1847, .str "/claim/cut.py" 1848, .int 700 0, .int 3 0, .int 0 0, .int 2 0, .int 3 0, .ref 1101, .bool true, .int 181 0, .ref 1102, .none, .none, .none, .ref 1103, .int 1849 0, .int 700 0, .str "/claim/cut.py" 1850]⟩), ⟨[]⟩⟩
def o1105 (P : Params) : Obj := ⟨.type "function", none, (.func ⟨"fewest_bars", "fewest_bars", dArgs (top 166), .stmts (dBody (top 166)), dScope (top 166), 3, [], .none, .ref 1100, .none, .str "rulewardens.bars" 1794, none, .ref 1104, .none, 0⟩), ⟨[]⟩⟩
def o1106 (P : Params) : Obj := ⟨.type "tuple", none, (.seq ⟨[]⟩ 0), ⟨[]⟩⟩
def o1107 (P : Params) : Obj := ⟨.none, none, (.fields ⟨[]⟩), ⟨[]⟩⟩
def o1108 (P : Params) : Obj := ⟨.none, none, (.func ⟨"shares", "shares", dArgs (top 168), .stmts (dBody (top 168)), dScope (top 168), 0, [], .none, .none, .none, .none, none, .none, .none, 0⟩), ⟨[]⟩⟩
def o1109 (P : Params) : Obj := ⟨.type "code", none, (.fields ⟨[.str "shares" 1854, .str "shares" 1855, .str "/claim/cut.py" 1856, .int 704 0, .int 2 0, .int 0 0, .int 0 0, .int 3 0, .ref 1106, .bool true, .int 181 0, .ref 1107, .none, .none, .none, .ref 1108, .int 1857 0, .int 704 0, .str "/claim/cut.py" 1858]⟩), ⟨[]⟩⟩
def o1110 (P : Params) : Obj := ⟨.type "function", none, (.func ⟨"shares", "shares", dArgs (top 168), .stmts (dBody (top 168)), dScope (top 168), 3, [], .none, .none, .none, .str "rulewardens.crowds" 1852, none, .ref 1109, .none, 0⟩), ⟨[]⟩⟩
def o1111 (P : Params) : Obj := ⟨.type "tuple", none, (.seq ⟨[]⟩ 0), ⟨[]⟩⟩
def o1112 (P : Params) : Obj := ⟨.none, none, (.fields ⟨[]⟩), ⟨[]⟩⟩
def o1113 (P : Params) : Obj := ⟨.none, none, (.func ⟨"first_crowds", "first_crowds", dArgs (top 169), .stmts (dBody (top 169)), dScope (top 169), 0, [], .none, .none, .none, .none, none, .none, .none, 0⟩), ⟨[]⟩⟩
def o1114 (P : Params) : Obj := ⟨.type "code", none, (.fields ⟨[.str "first_crowds" 1860, .str "first_crowds" 1861, .str "/claim/cut.py" 1862, .int 711 0, .int 2 0, .int 0 0, .int 0 0, .int 3 0, .ref 1111, .bool true, .int 181 0, .ref 1112, .none, .none, .none, .ref 1113, .int 1863 0, .int 711 0, .str "/claim/cut.py" 1864]⟩), ⟨[]⟩⟩
def o1115 (P : Params) : Obj := ⟨.type "function", none, (.func ⟨"first_crowds", "first_crowds", dArgs (top 169), .stmts (dBody (top 169)), dScope (top 169), 3, [], .none, .none, .none, .str "rulewardens.crowds" 1852, none, .ref 1114, .none, 0⟩), ⟨[]⟩⟩
def o1116 (P : Params) : Obj := ⟨.type "tuple", none, (.seq ⟨[]⟩ 0), ⟨[]⟩⟩
def o1117 (P : Params) : Obj := ⟨.none, none, (.fields ⟨[]⟩), ⟨[]⟩⟩
def o1118 (P : Params) : Obj := ⟨.none, none, (.func ⟨"where_of", "where_of", dArgs (top 170), .stmts (dBody (top 170)), dScope (top 170), 0, [], .none, .none, .none, .none, none, .none, .none, 0⟩), ⟨[]⟩⟩
def o1119 (P : Params) : Obj := ⟨.type "code", none, (.fields ⟨[.str "where_of" 1866, .str "where_of" 1867, .str "/claim/cut.py" 1868, .int 720 0, .int 1 0, .int 0 0, .int 0 0, .int 3 0, .ref 1116, .bool true, .int 181 0, .ref 1117, .none, .none, .none, .ref 1118, .int 1869 0, .int 720 0, .str "/claim/cut.py" 1870]⟩), ⟨[]⟩⟩
def o1120 (P : Params) : Obj := ⟨.type "function", none, (.func ⟨"where_of", "where_of", dArgs (top 170), .stmts (dBody (top 170)), dScope (top 170), 3, [], .none, .none, .none, .str "rulewardens.crowds" 1852, none, .ref 1119, .none, 0⟩), ⟨[]⟩⟩
def o1121 (P : Params) : Obj := ⟨.type "tuple", none, (.seq ⟨[]⟩ 0), ⟨[]⟩⟩
def o1122 (P : Params) : Obj := ⟨.none, none, (.fields ⟨[]⟩), ⟨[]⟩⟩
def o1123 (P : Params) : Obj := ⟨.none, none, (.func ⟨"goings_from", "goings_from", dArgs (top 171), .stmts (dBody (top 171)), dScope (top 171), 0, [], .none, .none, .none, .none, none, .none, .none, 0⟩), ⟨[]⟩⟩
def o1124 (P : Params) : Obj := ⟨.type "code", none, (.fields ⟨[.str "goings_from" 1872, .str "goings_from" 1873, .str "/claim/cut.py" 1874, .int 722 0, .int 4 0, .int 0 0, .int 0 0, .int 3 0, .ref 1121, .bool true, .int 181 0, .ref 1122, .none, .none, .none, .ref 1123, .int 1875 0, .int 722 0, .str "/claim/cut.py" 1876]⟩), ⟨[]⟩⟩
def o1125 (P : Params) : Obj := ⟨.type "function", none, (.func ⟨"goings_from", "goings_from", dArgs (top 171), .stmts (dBody (top 171)), dScope (top 171), 3, [], .none, .none, .none, .str "rulewardens.crowds" 1852, none, .ref 1124, .none, 0⟩), ⟨[]⟩⟩
def o1126 (P : Params) : Obj := ⟨.type "tuple", none, (.seq ⟨[]⟩ 0), ⟨[]⟩⟩
def o1127 (P : Params) : Obj := ⟨.none, none, (.fields ⟨[]⟩), ⟨[]⟩⟩
def o1128 (P : Params) : Obj := ⟨.none, none, (.func ⟨"ways_of_pair", "ways_of_pair", dArgs (top 172), .stmts (dBody (top 172)), dScope (top 172), 0, [], .none, .none, .none, .none, none, .none, .none, 0⟩), ⟨[]⟩⟩
def o1129 (P : Params) : Obj := ⟨.type "code", none, (.fields ⟨[.str "ways_of_pair" 1878, .str "ways_of_pair" 1879, .str "/claim/cut.py" 1880, .int 734 0, .int 2 0, .int 0 0, .int 0 0, .int 3 0, .ref 1126, .bool true, .int 181 0, .ref 1127, .none, .none, .none, .ref 1128, .int 1881 0, .int 734 0, .str "/claim/cut.py" 1882]⟩), ⟨[]⟩⟩
def o1130 (P : Params) : Obj := ⟨.type "function", none, (.func ⟨"ways_of_pair", "ways_of_pair", dArgs (top 172), .stmts (dBody (top 172)), dScope (top 172), 3, [], .none, .none, .none, .str "rulewardens.crowds" 1852, none, .ref 1129, .none, 0⟩), ⟨[]⟩⟩
def o1131 (P : Params) : Obj := ⟨.type "tuple", none, (.seq ⟨[]⟩ 0), ⟨[]⟩⟩
def o1132 (P : Params) : Obj := ⟨.none, none, (.fields ⟨[]⟩), ⟨[]⟩⟩
def o1133 (P : Params) : Obj := ⟨.none, none, (.func ⟨"is_log", "is_log", dArgs (top 174), .stmts (dBody (top 174)), dScope (top 174), 0, [], .none, .none, .none, .none, none, .none, .none, 0⟩), ⟨[]⟩⟩
def o1134 (P : Params) : Obj := ⟨.type "code", none, (.fields ⟨[.str "is_log" 1886, .str "is_log" 1887, .str "/claim/cut.py" 1888, .int 748 0, .int 1 0, .int 0 0, .int 0 0, .int 3 0, .ref 1131, .bool true, .int 181 0, .ref 1132, .none, .none, .none, .ref 1133, .int 1889 0, .int 748 0, .str "/claim/cut.py" 1890]⟩), ⟨[]⟩⟩
def o1135 (P : Params) : Obj := ⟨.type "function", none, (.func ⟨"is_log", "is_log", dArgs (top 174), .stmts (dBody (top 174)), dScope (top 174), 3, [], .none, .none, .none, .str "rulewardens.logs" 1884, none, .ref 1134, .none, 0⟩), ⟨[]⟩⟩
def o1136 (P : Params) : Obj := ⟨.type "tuple", none, (.seq ⟨[]⟩ 0), ⟨[]⟩⟩
def o1137 (P : Params) : Obj := ⟨.none, none, (.fields ⟨[]⟩), ⟨[]⟩⟩
def o1138 (P : Params) : Obj := ⟨.type "tuple", none, (.seq ⟨[.str "device" 1895, .str "log" 1896, .str "found" 1897, .str "heard" 1898]⟩ 0), ⟨[]⟩⟩
def o1139 (P : Params) : Obj := ⟨.type "tuple", none, (.seq ⟨[]⟩ 0), ⟨[]⟩⟩
def o1140 (P : Params) : Obj := ⟨.none, none, (.func ⟨"states_along", "states_along", dArgs (top 175), .stmts (dBody (top 175)), dScope (top 175), 0, [], .none, .none, .none, .none, none, .none, .none, 0⟩), ⟨[]⟩⟩
def o1141 (P : Params) : Obj := ⟨.type "code", none, (.fields ⟨[.str "states_along" 1892, .str "states_along" 1893, .str "/claim/cut.py" 1894, .int 750 0, .int 2 0, .int 0 0, .int 0 0, .int 3 0, .ref 1136, .bool true, .int 181 0, .ref 1137, .none, .ref 1138, .ref 1139, .ref 1140, .int 1899 0, .int 750 0, .str "/claim/cut.py" 1900]⟩), ⟨[]⟩⟩
def o1142 (P : Params) : Obj := ⟨.type "function", none, (.func ⟨"states_along", "states_along", dArgs (top 175), .stmts (dBody (top 175)), dScope (top 175), 3, [], .none, .none, .none, .str "rulewardens.logs" 1884, none, .ref 1141, .none, 0⟩), ⟨[]⟩⟩
def o1143 (P : Params) : Obj := ⟨.type "tuple", none, (.seq ⟨[]⟩ 0), ⟨[]⟩⟩
def o1144 (P : Params) : Obj := ⟨.none, none, (.fields ⟨[]⟩), ⟨[]⟩⟩
def o1145 (P : Params) : Obj := ⟨.type "tuple", none, (.seq ⟨[.str "device" 1905, .str "log" 1906]⟩ 0), ⟨[]⟩⟩
def o1146 (P : Params) : Obj := ⟨.type "tuple", none, (.seq ⟨[]⟩ 0), ⟨[]⟩⟩
def o1147 (P : Params) : Obj := ⟨.none, none, (.func ⟨"state_behind", "state_behind", dArgs (top 176), .stmts (dBody (top 176)), dScope (top 176), 0, [], .none, .none, .none, .none, none, .none, .none, 0⟩), ⟨[]⟩⟩
def o1148 (P : Params) : Obj := ⟨.type "code", none, (.fields ⟨[.str "state_behind" 1902, .str "state_behind" 1903, .str "/claim/cut.py" 1904, .int 755 0, .int 2 0, .int 0 0, .int 0 0, .int 3 0, .ref 1143, .bool true, .int 181 0, .ref 1144, .none, .ref 1145, .ref 1146, .ref 1147, .int 1907 0, .int 755 0, .str "/claim/cut.py" 1908]⟩), ⟨[]⟩⟩
def o1149 (P : Params) : Obj := ⟨.type "function", none, (.func ⟨"state_behind", "state_behind", dArgs (top 176), .stmts (dBody (top 176)), dScope (top 176), 3, [], .none, .none, .none, .str "rulewardens.logs" 1884, none, .ref 1148, .none, 0⟩), ⟨[]⟩⟩
def o1150 (P : Params) : Obj := ⟨.type "tuple", none, (.seq ⟨[]⟩ 0), ⟨[]⟩⟩
def o1151 (P : Params) : Obj := ⟨.none, none, (.fields ⟨[]⟩), ⟨[]⟩⟩
def o1152 (P : Params) : Obj := ⟨.type "tuple", none, (.seq ⟨[.str "ward" 1913, .str "log" 1914]⟩ 0), ⟨[]⟩⟩
def o1153 (P : Params) : Obj := ⟨.type "tuple", none, (.seq ⟨[]⟩ 0), ⟨[]⟩⟩
def o1154 (P : Params) : Obj := ⟨.none, none, (.func ⟨"can_come", "can_come", dArgs (top 177), .stmts (dBody (top 177)), dScope (top 177), 0, [], .none, .none, .none, .none, none, .none, .none, 0⟩), ⟨[]⟩⟩
def o1155 (P : Params) : Obj := ⟨.type "code", none, (.fields ⟨[.str "can_come" 1910, .str "can_come" 1911, .str "/claim/cut.py" 1912, .int 757 0, .int 2 0, .int 0 0, .int 0 0, .int 3 0, .ref 1150, .bool true, .int 181 0, .ref 1151, .none, .ref 1152, .ref 1153, .ref 1154, .int 1915 0, .int 757 0, .str "/claim/cut.py" 1916]⟩), ⟨[]⟩⟩
def o1156 (P : Params) : Obj := ⟨.type "function", none, (.func ⟨"can_come", "can_come", dArgs (top 177), .stmts (dBody (top 177)), dScope (top 177), 3, [], .none, .none, .none, .str "rulewardens.logs" 1884, none, .ref 1155, .none, 0⟩), ⟨[]⟩⟩
def o1157 (P : Params) : Obj := ⟨.type "tuple", none, (.seq ⟨[]⟩ 0), ⟨[]⟩⟩
def o1158 (P : Params) : Obj := ⟨.none, none, (.fields ⟨[]⟩), ⟨[]⟩⟩
def o1159 (P : Params) : Obj := ⟨.type "tuple", none, (.seq ⟨[.str "ward" 1923, .str "crowd" 1924, .str "state" 1925, .str "heard" 1926, .str "found" 1927, .str "choice" 1928, .str "behind" 1929, .str "further" 1930]⟩ 0), ⟨[]⟩⟩
def o1160 (P : Params) : Obj := ⟨.type "tuple", none, (.seq ⟨[]⟩ 0), ⟨[]⟩⟩
def o1161 (P : Params) : Obj := ⟨.none, none, (.func ⟨"crowd_ways", "crowd_ways", dArgs (top 179), .stmts (dBody (top 179)), dScope (top 179), 0, [], .none, .none, .none, .none, none, .none, .none, 0⟩), ⟨[]⟩⟩
def o1162 (P : Params) : Obj := ⟨.type "code", none, (.fields ⟨[.str "crowd_ways" 1920, .str "crowd_ways" 1921, .str "/claim/cut.py" 1922, .int 760 0, .int 4 0, .int 0 0, .int 0 0, .int 3 0, .ref 1157, .bool true, .int 181 0, .ref 1158, .none, .ref 1159, .ref 1160, .ref 1161, .int 1931 0, .int 760 0, .str "/claim/cut.py" 1932]⟩), ⟨[]⟩⟩
def o1163 (P : Params) : Obj := ⟨.type "function", none, (.func ⟨"crowd_ways", "crowd_ways", dArgs (top 179), .stmts (dBody (top 179)), dScope (top 179), 3, [], .none, .none, .none, .str "rulewardens.days" 1918, none, .ref 1162, .none, 0⟩), ⟨[]⟩⟩
def o1164 (P : Params) : Obj := ⟨.type "tuple", none, (.seq ⟨[]⟩ 0), ⟨[]⟩⟩
def o1165 (P : Params) : Obj := ⟨.none, none, (.fields ⟨[]⟩), ⟨[]⟩⟩
def o1166 (P : Params) : Obj := ⟨.none, none, (.func ⟨"crowds_along", "crowds_along", dArgs (top 180), .stmts (dBody (top 180)), dScope (top 180), 0, [], .none, .none, .none, .none, none, .none, .none, 0⟩), ⟨[]⟩⟩
def o1167 (P : Params) : Obj := ⟨.type "code", none, (.fields ⟨[.str "crowds_along" 1934, .str "crowds_along" 1935, .str "/claim/cut.py" 1936, .int 766 0, .int 3 0, .int 0 0, .int 0 0, .int 3 0, .ref 1164, .bool true, .int 181 0, .ref 1165, .none, .none, .none, .ref 1166, .int 1937 0, .int 766 0, .str "/claim/cut.py" 1938]⟩), ⟨[]⟩⟩
def o1168 (P : Params) : Obj := ⟨.type "function", none, (.func ⟨"crowds_along", "crowds_along", dArgs (top 180), .stmts (dBody (top 180)), dScope (top 180), 3, [], .none, .none, .none, .str "rulewardens.days" 1918, none, .ref 1167, .none, 0⟩), ⟨[]⟩⟩
def o1169 (P : Params) : Obj := ⟨.type "tuple", none, (.seq ⟨[]⟩ 0), ⟨[]⟩⟩
def o1170 (P : Params) : Obj := ⟨.none, none, (.fields ⟨[]⟩), ⟨[]⟩⟩
def o1171 (P : Params) : Obj := ⟨.type "tuple", none, (.seq ⟨[.str "ward" 1943, .str "log" 1944, .str "many" 1945]⟩ 0), ⟨[]⟩⟩
def o1172 (P : Params) : Obj := ⟨.type "tuple", none, (.seq ⟨[]⟩ 0), ⟨[]⟩⟩
def o1173 (P : Params) : Obj := ⟨.none, none, (.func ⟨"crowds_of_log", "crowds_of_log", dArgs (top 181), .stmts (dBody (top 181)), dScope (top 181), 0, [], .none, .none, .none, .none, none, .none, .none, 0⟩), ⟨[]⟩⟩
def o1174 (P : Params) : Obj := ⟨.type "code", none, (.fields ⟨[.str "crowds_of_log" 1940, .str "crowds_of_log" 1941, .str "/claim/cut.py" 1942, .int 775 0, .int 3 0, .int 0 0, .int 0 0, .int 3 0, .ref 1169, .bool true, .int 181 0, .ref 1170, .none, .ref 1171, .ref 1172, .ref 1173, .int 1946 0, .int 775 0, .str "/claim/cut.py" 1947]⟩), ⟨[]⟩⟩
def o1175 (P : Params) : Obj := ⟨.type "function", none, (.func ⟨"crowds_of_log", "crowds_of_log", dArgs (top 181), .stmts (dBody (top 181)), dScope (top 181), 3, [], .none, .none, .none, .str "rulewardens.days" 1918, none, .ref 1174, .none, 0⟩), ⟨[]⟩⟩
def o1176 (P : Params) : Obj := ⟨.type "dict", none, (.dict ⟨[⟨hs P "greatest", .str "greatest" 1950, .int 6 1949⟩]⟩ 1), ⟨[]⟩⟩
def o1177 (P : Params) : Obj := ⟨.type "tuple", none, (.seq ⟨[]⟩ 0), ⟨[]⟩⟩
def o1178 (P : Params) : Obj := ⟨.none, none, (.fields ⟨[]⟩), ⟨[]⟩⟩
def o1179 (P : Params) : Obj := ⟨.type "tuple", none, (.seq ⟨[.str "ward" 1954, .str "log" 1955, .str "greatest" 1956, .str "many" 1957]⟩ 0), ⟨[]⟩⟩
def o1180 (P : Params) : Obj := ⟨.type "tuple", none, (.seq ⟨[]⟩ 0), ⟨[]⟩⟩
def o1181 (P : Params) : Obj := ⟨.none, none, (.func ⟨"people_of_log", "people_of_log", dArgs (top 182), .stmts (dBody (top 182)), dScope (top 182), 0, [], .none, .none, .none, .none, none, .none, .none, 0⟩), ⟨[]⟩⟩
def o1182 (P : Params) : Obj := ⟨.type "code", none, (.fields ⟨[.str "people_of_log" 1951, .str "people_of_log" 1952, .str "/claim/cut.py" 1953, .int 777 0, .int 2 0, .int 0 0, .int 1 0, .int 3 0, .ref 1177, .bool true, .int 181 0, .ref 1178, .none, .ref 1179, .ref 1180, .ref 1181, .int 1958 0, .int 777 0, .str "/claim/cut.py" 1959]⟩), ⟨[]⟩⟩
def o1183 (P : Params) : Obj := ⟨.type "function", none, (.func ⟨"people_of_log", "people_of_log", dArgs (top 182), .stmts (dBody (top 182)), dScope (top 182), 3, [], .none, .ref 1176, .none, .str "rulewardens.days" 1918, none, .ref 1182, .none, 0⟩), ⟨[]⟩⟩
def o1184 (P : Params) : Obj := ⟨.type "tuple", none, (.seq ⟨[]⟩ 0), ⟨[]⟩⟩
def o1185 (P : Params) : Obj := ⟨.none, none, (.fields ⟨[]⟩), ⟨[]⟩⟩
def o1186 (P : Params) : Obj := ⟨.type "tuple", none, (.seq ⟨[.str "ward" 1966, .str "other" 1967, .str "row" 1968]⟩ 0), ⟨[]⟩⟩
def o1187 (P : Params) : Obj := ⟨.type "tuple", none, (.seq ⟨[]⟩ 0), ⟨[]⟩⟩
def o1188 (P : Params) : Obj := ⟨.none, none, (.func ⟨"is_one_face", "is_one_face", dArgs (top 184), .stmts (dBody (top 184)), dScope (top 184), 0, [], .none, .none, .none, .none, none, .none, .none, 0⟩), ⟨[]⟩⟩
def o1189 (P : Params) : Obj := ⟨.type "code", none, (.fields ⟨[.str "is_one_face" 1963, .str "is_one_face" 1964, .str "/claim/cut.py" 1965, .int 783 0, .int 3 0, .int 0 0, .int 0 0, .int 3 0, .ref 1184, .bool true, .int 181 0, .ref 1185, .none, .ref 1186, .ref 1187, .ref 1188, .int 1969 0, .int 783 0, .str "/claim/cut.py" 1970]⟩), ⟨[]⟩⟩
def o1190 (P : Params) : Obj := ⟨.type "function", none, (.func ⟨"is_one_face", "is_one_face", dArgs (top 184), .stmts (dBody (top 184)), dScope (top 184), 3, [], .none, .none, .none, .str "rulewardens.alike" 1961, none, .ref 1189, .none, 0⟩), ⟨[]⟩⟩
def o1191 (P : Params) : Obj := ⟨.type "tuple", none, (.seq ⟨[]⟩ 0), ⟨[]⟩⟩
def o1192 (P : Params) : Obj := ⟨.none, none, (.fields ⟨[]⟩), ⟨[]⟩⟩
def o1193 (P : Params) : Obj := ⟨.none, none, (.func ⟨"rows_behind", "rows_behind", dArgs (top 185), .stmts (dBody (top 185)), dScope (top 185), 0, [], .none, .none, .none, .none, none, .none, .none, 0⟩), ⟨[]⟩⟩
def o1194 (P : Params) : Obj := ⟨.type "code", none, (.fields ⟨[.str "rows_behind" 1972, .str "rows_behind" 1973, .str "/claim/cut.py" 1974, .int 785 0, .int 3 0, .int 0 0, .int 0 0, .int 3 0, .ref 1191, .bool true, .int 181 0, .ref 1192, .none, .none, .none, .ref 1193, .int 1975 0, .int 785 0, .str "/claim/cut.py" 1976]⟩), ⟨[]⟩⟩
def o1195 (P : Params) : Obj := ⟨.type "function", none, (.func ⟨"rows_behind", "rows_behind", dArgs (top 185), .stmts (dBody (top 185)), dScope (top 185), 3, [], .none, .none, .none, .str "rulewardens.alike" 1961, none, .ref 1194, .none, 0⟩), ⟨[]⟩⟩
def o1196 (P : Params) : Obj := ⟨.type "tuple", none, (.seq ⟨[]⟩ 0), ⟨[]⟩⟩
def o1197 (P : Params) : Obj := ⟨.none, none, (.fields ⟨[]⟩), ⟨[]⟩⟩
def o1198 (P : Params) : Obj := ⟨.type "tuple", none, (.seq ⟨[.str "ward" 1981, .str "other" 1982, .str "most" 1983, .str "first" 1984, .str "found" 1985, .str "order" 1986, .str "at" 1987, .str "heard" 1988, .str "row" 1989]⟩ 0), ⟨[]⟩⟩
def o1199 (P : Params) : Obj := ⟨.type "tuple", none, (.seq ⟨[]⟩ 0), ⟨[]⟩⟩
def o1200 (P : Params) : Obj := ⟨.none, none, (.func ⟨"logs_to_rows", "logs_to_rows", dArgs (top 186), .stmts (dBody (top 186)), dScope (top 186), 0, [], .none, .none, .none, .none, none, .none, .none, 0⟩), ⟨[]⟩⟩
def o1201 (P : Params) : Obj := ⟨.type "code", none, (.fields ⟨[.str "logs_to_rows" 1978, .str "logs_to_rows" 1979, .str "/claim/cut.py" 1980, .int 789 0, .int 3 0, .int 0 0, .int 0 0, .int 3 0, .ref 1196, .bool true, .int 181 0, .ref 1197, .none, .ref 1198, .ref 1199, .ref 1200, .int 1990 0, .int 789 0, .str "/claim/cut.py" 1991]⟩), ⟨[]⟩⟩
def o1202 (P : Params) : Obj := ⟨.type "function", none, (.func ⟨"logs_to_rows", "logs_to_rows", dArgs (top 186), .stmts (dBody (top 186)), dScope (top 186), 3, [], .none, .none, .none, .str "rulewardens.alike" 1961, none, .ref 1201, .none, 0⟩), ⟨[]⟩⟩
def o1203 (P : Params) : Obj := ⟨.type "dict", none, (.dict ⟨[⟨hs P "most", .str "most" 1994, .int 60 1993⟩]⟩ 1), ⟨[]⟩⟩
def o1204 (P : Params) : Obj := ⟨.type "tuple", none, (.seq ⟨[]⟩ 0), ⟨[]⟩⟩
def o1205 (P : Params) : Obj := ⟨.none, none, (.fields ⟨[]⟩), ⟨[]⟩⟩
def o1206 (P : Params) : Obj := ⟨.type "tuple", none, (.seq ⟨[.str "ward" 1998, .str "other" 1999, .str "most" 2000, .str "row" 2001, .str "log" 2002]⟩ 0), ⟨[]⟩⟩
def o1207 (P : Params) : Obj := ⟨.type "tuple", none, (.seq ⟨[]⟩ 0), ⟨[]⟩⟩
def o1208 (P : Params) : Obj := ⟨.none, none, (.func ⟨"log_beside", "log_beside", dArgs (top 187), .stmts (dBody (top 187)), dScope (top 187), 0, [], .none, .none, .none, .none, none, .none, .none, 0⟩), ⟨[]⟩⟩
def o1209 (P : Params) : Obj := ⟨.type "code", none, (.fields ⟨[.str "log_beside" 1995, .str "log_beside" 1996, .str "/claim/cut.py" 1997, .int 801 0, .int 2 0, .int 0 0, .int 1 0, .int 3 0, .ref 1204, .bool true, .int 181 0, .ref 1205, .none, .ref 1206, .ref 1207, .ref 1208, .int 2003 0, .int 801 0, .str "/claim/cut.py" 2004]⟩), ⟨[]⟩⟩
def o1210 (P : Params) : Obj := ⟨.type "function", none, (.func ⟨"log_beside", "log_beside", dArgs (top 187), .stmts (dBody (top 187)), dScope (top 187), 3, [], .none, .ref 1203, .none, .str "rulewardens.alike" 1961, none, .ref 1209, .none, 0⟩), ⟨[]⟩⟩
def o1211 (P : Params) : Obj := ⟨.type "tuple", none, (.seq ⟨[]⟩ 0), ⟨[]⟩⟩
def o1212 (P : Params) : Obj := ⟨.none, none, (.fields ⟨[]⟩), ⟨[]⟩⟩
def o1213 (P : Params) : Obj := ⟨.type "tuple", none, (.seq ⟨[.str "ward" 2011, .str "onlooker" 2012]⟩ 0), ⟨[]⟩⟩
def o1214 (P : Params) : Obj := ⟨.type "tuple", none, (.seq ⟨[]⟩ 0), ⟨[]⟩⟩
def o1215 (P : Params) : Obj := ⟨.none, none, (.func ⟨"check_classes", "check_classes", dArgs (top 189), .stmts (dBody (top 189)), dScope (top 189), 0, [], .none, .none, .none, .none, none, .none, .none, 0⟩), ⟨[]⟩⟩
def o1216 (P : Params) : Obj := ⟨.type "code", none, (.fields ⟨[.str "check_classes" 2008, .str "check_classes" 2009, .str "/claim/cut.py" 2010, .int 807 0, .int 2 0, .int 0 0, .int 0 0, .int 3 0, .ref 1211, .bool true, .int 181 0, .ref 1212, .none, .ref 1213, .ref 1214, .ref 1215, .int 2013 0, .int 807 0, .str "/claim/cut.py" 2014]⟩), ⟨[]⟩⟩
def o1217 (P : Params) : Obj := ⟨.type "function", none, (.func ⟨"check_classes", "check_classes", dArgs (top 189), .stmts (dBody (top 189)), dScope (top 189), 3, [], .none, .none, .none, .str "rulewardens.sights" 2006, none, .ref 1216, .none, 0⟩), ⟨[]⟩⟩
def o1218 (P : Params) : Obj := ⟨.type "tuple", none, (.seq ⟨[]⟩ 0), ⟨[]⟩⟩
def o1219 (P : Params) : Obj := ⟨.none, none, (.fields ⟨[]⟩), ⟨[]⟩⟩
def o1220 (P : Params) : Obj := ⟨.none, none, (.func ⟨"own_letters", "own_letters", dArgs (top 190), .stmts (dBody (top 190)), dScope (top 190), 0, [], .none, .none, .none, .none, none, .none, .none, 0⟩), ⟨[]⟩⟩
def o1221 (P : Params) : Obj := ⟨.type "code", none, (.fields ⟨[.str "own_letters" 2016, .str "own_letters" 2017, .str "/claim/cut.py" 2018, .int 810 0, .int 2 0, .int 0 0, .int 0 0, .int 3 0, .ref 1218, .bool true, .int 181 0, .ref 1219, .none, .none, .none, .ref 1220, .int 2019 0, .int 810 0, .str "/claim/cut.py" 2020]⟩), ⟨[]⟩⟩
def o1222 (P : Params) : Obj := ⟨.type "function", none, (.func ⟨"own_letters", "own_letters", dArgs (top 190), .stmts (dBody (top 190)), dScope (top 190), 3, [], .none, .none, .none, .str "rulewardens.sights" 2006, none, .ref 1221, .none, 0⟩), ⟨[]⟩⟩
def o1223 (P : Params) : Obj := ⟨.type "tuple", none, (.seq ⟨[]⟩ 0), ⟨[]⟩⟩
def o1224 (P : Params) : Obj := ⟨.none, none, (.fields ⟨[]⟩), ⟨[]⟩⟩
def o1225 (P : Params) : Obj := ⟨.type "tuple", none, (.seq ⟨[.str "ward" 2025, .str "onlooker" 2026, .str "state" 2027]⟩ 0), ⟨[]⟩⟩
def o1226 (P : Params) : Obj := ⟨.type "tuple", none, (.seq ⟨[]⟩ 0), ⟨[]⟩⟩
def o1227 (P : Params) : Obj := ⟨.none, none, (.func ⟨"class_shown", "class_shown", dArgs (top 191), .stmts (dBody (top 191)), dScope (top 191), 0, [], .none, .none, .none, .none, none, .none, .none, 0⟩), ⟨[]⟩⟩
def o1228 (P : Params) : Obj := ⟨.type "code", none, (.fields ⟨[.str "class_shown" 2022, .str "class_shown" 2023, .str "/claim/cut.py" 2024, .int 812 0, .int 3 0, .int 0 0, .int 0 0, .int 3 0, .ref 1223, .bool true, .int 181 0, .ref 1224, .none, .ref 1225, .ref 1226, .ref 1227, .int 2028 0, .int 812 0, .str "/claim/cut.py" 2029]⟩), ⟨[]⟩⟩
def o1229 (P : Params) : Obj := ⟨.type "function", none, (.func ⟨"class_shown", "class_shown", dArgs (top 191), .stmts (dBody (top 191)), dScope (top 191), 3, [], .none, .none, .none, .str "rulewardens.sights" 2006, none, .ref 1228, .none, 0⟩), ⟨[]⟩⟩
def o1230 (P : Params) : Obj := ⟨.type "tuple", none, (.seq ⟨[]⟩ 0), ⟨[]⟩⟩
def o1231 (P : Params) : Obj := ⟨.none, none, (.fields ⟨[]⟩), ⟨[]⟩⟩
def o1232 (P : Params) : Obj := ⟨.none, none, (.func ⟨"sights_behind", "sights_behind", dArgs (top 192), .stmts (dBody (top 192)), dScope (top 192), 0, [], .none, .none, .none, .none, none, .none, .none, 0⟩), ⟨[]⟩⟩
def o1233 (P : Params) : Obj := ⟨.type "code", none, (.fields ⟨[.str "sights_behind" 2031, .str "sights_behind" 2032, .str "/claim/cut.py" 2033, .int 814 0, .int 3 0, .int 0 0, .int 0 0, .int 3 0, .ref 1230, .bool true, .int 181 0, .ref 1231, .none, .none, .none, .ref 1232, .int 2034 0, .int 814 0, .str "/claim/cut.py" 2035]⟩), ⟨[]⟩⟩
def o1234 (P : Params) : Obj := ⟨.type "function", none, (.func ⟨"sights_behind", "sights_behind", dArgs (top 192), .stmts (dBody (top 192)), dScope (top 192), 3, [], .none, .none, .none, .str "rulewardens.sights" 2006, none, .ref 1233, .none, 0⟩), ⟨[]⟩⟩
def o1235 (P : Params) : Obj := ⟨.type "tuple", none, (.seq ⟨[]⟩ 0), ⟨[]⟩⟩
def o1236 (P : Params) : Obj := ⟨.none, none, (.fields ⟨[]⟩), ⟨[]⟩⟩
def o1237 (P : Params) : Obj := ⟨.none, none, (.func ⟨"is_lot_empty", "is_lot_empty", dArgs (top 193), .stmts (dBody (top 193)), dScope (top 193), 0, [], .none, .none, .none, .none, none, .none, .none, 0⟩), ⟨[]⟩⟩
def o1238 (P : Params) : Obj := ⟨.type "code", none, (.fields ⟨[.str "is_lot_empty" 2037, .str "is_lot_empty" 2038, .str "/claim/cut.py" 2039, .int 822 0, .int 2 0, .int 0 0, .int 0 0, .int 3 0, .ref 1235, .bool true, .int 181 0, .ref 1236, .none, .none, .none, .ref 1237, .int 2040 0, .int 822 0, .str "/claim/cut.py" 2041]⟩), ⟨[]⟩⟩
def o1239 (P : Params) : Obj := ⟨.type "function", none, (.func ⟨"is_lot_empty", "is_lot_empty", dArgs (top 193), .stmts (dBody (top 193)), dScope (top 193), 3, [], .none, .none, .none, .str "rulewardens.sights" 2006, none, .ref 1238, .none, 0⟩), ⟨[]⟩⟩
def o1240 (P : Params) : Obj := ⟨.type "tuple", none, (.seq ⟨[]⟩ 0), ⟨[]⟩⟩
def o1241 (P : Params) : Obj := ⟨.none, none, (.fields ⟨[]⟩), ⟨[]⟩⟩
def o1242 (P : Params) : Obj := ⟨.none, none, (.func ⟨"is_lot_inhabited", "is_lot_inhabited", dArgs (top 194), .stmts (dBody (top 194)), dScope (top 194), 0, [], .none, .none, .none, .none, none, .none, .none, 0⟩), ⟨[]⟩⟩
def o1243 (P : Params) : Obj := ⟨.type "code", none, (.fields ⟨[.str "is_lot_inhabited" 2043, .str "is_lot_inhabited" 2044, .str "/claim/cut.py" 2045, .int 824 0, .int 2 0, .int 0 0, .int 0 0, .int 3 0, .ref 1240, .bool true, .int 181 0, .ref 1241, .none, .none, .none, .ref 1242, .int 2046 0, .int 824 0, .str "/claim/cut.py" 2047]⟩), ⟨[]⟩⟩
def o1244 (P : Params) : Obj := ⟨.type "function", none, (.func ⟨"is_lot_inhabited", "is_lot_inhabited", dArgs (top 194), .stmts (dBody (top 194)), dScope (top 194), 3, [], .none, .none, .none, .str "rulewardens.sights" 2006, none, .ref 1243, .none, 0⟩), ⟨[]⟩⟩
def o1245 (P : Params) : Obj := ⟨.type "tuple", none, (.seq ⟨[]⟩ 0), ⟨[]⟩⟩
def o1246 (P : Params) : Obj := ⟨.none, none, (.fields ⟨[]⟩), ⟨[]⟩⟩
def o1247 (P : Params) : Obj := ⟨.type "tuple", none, (.seq ⟨[.str "ward" 2056, .str "word" 2057, .str "lot" 2058]⟩ 0), ⟨[]⟩⟩
def o1248 (P : Params) : Obj := ⟨.type "tuple", none, (.seq ⟨[]⟩ 0), ⟨[]⟩⟩
def o1249 (P : Params) : Obj := ⟨.none, none, (.func ⟨"is_known", "is_known", dArgs (top 197), .stmts (dBody (top 197)), dScope (top 197), 0, [], .none, .none, .none, .none, none, .none, .none, 0⟩), ⟨[]⟩⟩
def o1250 (P : Params) : Obj := ⟨.type "code", none, (.fields ⟨[.str "is_known" 2053, .str "is_known" 2054, .str "/claim/cut.py" 2055, .int 828 0, .int 3 0, .int 0 0, .int 0 0, .int 3 0, .ref 1245, .bool true, .int 181 0, .ref 1246, .none, .ref 1247, .ref 1248, .ref 1249, .int 2059 0, .int 828 0, .str "/claim/cut.py" 2060]⟩), ⟨[]⟩⟩
def o1251 (P : Params) : Obj := ⟨.type "function", none, (.func ⟨"is_known", "is_known", dArgs (top 197), .stmts (dBody (top 197)), dScope (top 197), 3, [], .none, .none, .none, .str "rulewardens.learning" 2049, none, .ref 1250, .none, 0⟩), ⟨[]⟩⟩
def o1252 (P : Params) : Obj := ⟨.type "dict", none, (.dict ⟨[⟨hs P "most", .str "most" 2063, .int 60 2062⟩]⟩ 1), ⟨[]⟩⟩
def o1253 (P : Params) : Obj := ⟨.type "tuple", none, (.seq ⟨[]⟩ 0), ⟨[]⟩⟩
def o1254 (P : Params) : Obj := ⟨.none, none, (.fields ⟨[]⟩), ⟨[]⟩⟩
def o1255 (P : Params) : Obj := ⟨.type "tuple", none, (.seq ⟨[.str "ward" 2067, .str "onlooker" 2068, .str "most" 2069, .str "begin" 2070, .str "known" 2071, .str "waiting" 2072, .str "further" 2073]⟩ 0), ⟨[]⟩⟩
def o1256 (P : Params) : Obj := ⟨.type "tuple", none, (.seq ⟨[]⟩ 0), ⟨[]⟩⟩
def o1257 (P : Params) : Obj := ⟨.none, none, (.func ⟨"lots_of_pictures", "lots_of_pictures", dArgs (top 198), .stmts (dBody (top 198)), dScope (top 198), 0, [], .none, .none, .none, .none, none, .none, .none, 0⟩), ⟨[]⟩⟩
def o1258 (P : Params) : Obj := ⟨.type "code", none, (.fields ⟨[.str "lots_of_pictures" 2064, .str "lots_of_pictures" 2065, .str "/claim/cut.py" 2066, .int 830 0, .int 2 0, .int 0 0, .int 1 0, .int 3 0, .ref 1253, .bool true, .int 181 0, .ref 1254, .none, .ref 1255, .ref 1256, .ref 1257, .int 2074 0, .int 830 0, .str "/claim/cut.py" 2075]⟩), ⟨[]⟩⟩
def o1259 (P : Params) : Obj := ⟨.type "function", none, (.func ⟨"lots_of_pictures", "lots_of_pictures", dArgs (top 198), .stmts (dBody (top 198)), dScope (top 198), 3, [], .none, .ref 1252, .none, .str "rulewardens.learning" 2049, none, .ref 1258, .none, 0⟩), ⟨[]⟩⟩
def o1260 (P : Params) : Obj := ⟨.type "dict", none, (.dict ⟨[⟨hs P "most", .str "most" 2078, .int 60 2077⟩]⟩ 1), ⟨[]⟩⟩
def o1261 (P : Params) : Obj := ⟨.type "tuple", none, (.seq ⟨[]⟩ 0), ⟨[]⟩⟩
def o1262 (P : Params) : Obj := ⟨.none, none, (.fields ⟨[]⟩), ⟨[]⟩⟩
def o1263 (P : Params) : Obj := ⟨.none, none, (.func ⟨"first_learned", "first_learned", dArgs (top 199), .stmts (dBody (top 199)), dScope (top 199), 0, [], .none, .none, .none, .none, none, .none, .none, 0⟩), ⟨[]⟩⟩
def o1264 (P : Params) : Obj := ⟨.type "code", none, (.fields ⟨[.str "first_learned" 2079, .str "first_learned" 2080, .str "/claim/cut.py" 2081, .int 842 0, .int 3 0, .int 0 0, .int 1 0, .int 3 0, .ref 1261, .bool true, .int 181 0, .ref 1262, .none, .none, .none, .ref 1263, .int 2082 0, .int 842 0, .str "/claim/cut.py" 2083]⟩), ⟨[]⟩⟩
def o1265 (P : Params) : Obj := ⟨.type "function", none, (.func ⟨"first_learned", "first_learned", dArgs (top 199), .stmts (dBody (top 199)), dScope (top 199), 3, [], .none, .ref 1260, .none, .str "rulewardens.learning" 2049, none, .ref 1264, .none, 0⟩), ⟨[]⟩⟩
def o1266 (P : Params) : Obj := ⟨.type "tuple", none, (.seq ⟨[]⟩ 0), ⟨[]⟩⟩
def o1267 (P : Params) : Obj := ⟨.none, none, (.fields ⟨[]⟩), ⟨[]⟩⟩
def o1268 (P : Params) : Obj := ⟨.none, none, (.func ⟨"are_classes", "are_classes", dArgs (top 201), .stmts (dBody (top 201)), dScope (top 201), 0, [], .none, .none, .none, .none, none, .none, .none, 0⟩), ⟨[]⟩⟩
def o1269 (P : Params) : Obj := ⟨.type "code", none, (.fields ⟨[.str "are_classes" 2087, .str "are_classes" 2088, .str "/claim/cut.py" 2089, .int 860 0, .int 1 0, .int 0 0, .int 0 0, .int 3 0, .ref 1266, .bool true, .int 181 0, .ref 1267, .none, .none, .none, .ref 1268, .int 2090 0, .int 860 0, .str "/claim/cut.py" 2091]⟩), ⟨[]⟩⟩
def o1270 (P : Params) : Obj := ⟨.type "function", none, (.func ⟨"are_classes", "are_classes", dArgs (top 201), .stmts (dBody (top 201)), dScope (top 201), 3, [], .none, .none, .none, .str "rulewardens.onlookers" 2085, none, .ref 1269, .none, 0⟩), ⟨[]⟩⟩
def o1271 (P : Params) : Obj := ⟨.type "tuple", none, (.seq ⟨[]⟩ 0), ⟨[]⟩⟩
def o1272 (P : Params) : Obj := ⟨.none, none, (.fields ⟨[]⟩), ⟨[]⟩⟩
def o1273 (P : Params) : Obj := ⟨.none, none, (.func ⟨"put_anew", "put_anew", dArgs (top 202), .stmts (dBody (top 202)), dScope (top 202), 0, [], .none, .none, .none, .none, none, .none, .none, 0⟩), ⟨[]⟩⟩
def o1274 (P : Params) : Obj := ⟨.type "code", none, (.fields ⟨[.str "put_anew" 2093, .str "put_anew" 2094, .str "/claim/cut.py" 2095, .int 864 0, .int 1 0, .int 0 0, .int 0 0, .int 3 0, .ref 1271, .bool true, .int 181 0, .ref 1272, .none, .none, .none, .ref 1273, .int 2096 0, .int 864 0, .str "/claim/cut.py" 2097]⟩), ⟨[]⟩⟩
def o1275 (P : Params) : Obj := ⟨.type "function", none, (.func ⟨"put_anew", "put_anew", dArgs (top 202), .stmts (dBody (top 202)), dScope (top 202), 3, [], .none, .none, .none, .str "rulewardens.onlookers" 2085, none, .ref 1274, .none, 0⟩), ⟨[]⟩⟩
def o1276 (P : Params) : Obj := ⟨.type "tuple", none, (.seq ⟨[]⟩ 0), ⟨[]⟩⟩
def o1277 (P : Params) : Obj := ⟨.type "builtin_function_or_method", none, (.fields ⟨[.builtin "type.__prepare__", .type "type"]⟩), ⟨[]⟩⟩
def o1278 (P : Params) : Obj := ⟨.type "dict", none, (.dict ⟨[⟨hs P "__module__", .str "__module__" 2106, .str "rulewardens.onlookers" 2085⟩, ⟨hs P "__qualname__", .str "__qualname__" 2108, .str "Onlooker" 2107⟩, ⟨hs P "__firstlineno__", .str "__firstlineno__" 2110, .int 869 2109⟩, ⟨hs P "__init__", .str "__init__" 2119, .ref 1289⟩, ⟨hs P "__eq__", .str "__eq__" 2127, .ref 1296⟩, ⟨hs P "__or__", .str "__or__" 2136, .ref 1303⟩, ⟨hs P "sees_all_of", .str "sees_all_of" 2144, .ref 1310⟩, ⟨hs P "__static_attributes__", .str "__static_attributes__" 2147, .ref 1311⟩]⟩ 8), ⟨[]⟩⟩
def o1279 (P : Params) : Obj := ⟨.type "tuple", none, (.seq ⟨[]⟩ 0), ⟨[]⟩⟩
def o1280 (P : Params) : Obj := ⟨.none, none, (.fields ⟨[.int 871 0, .int 4 0, .ref 1288, .int 879 0, .int 4 0, .ref 1295, .int 882 0, .int 4 0, .ref 1302, .int 888 0, .int 4 0, .ref 1309]⟩), ⟨[]⟩⟩
def o1281 (P : Params) : Obj := ⟨.type "code", none, (.fields ⟨[.str "Onlooker" 2101, .str "Onlooker" 2102, .str "/claim/cut.py" 2103, .int 869 0, .int 0 0, .int 0 0, .int 0 0, .int 0 0, .ref 1279, .bool false, .int 181 0, .ref 1280, .none, .none, .none, .none, .int 2104 0, .int 869 0, .str "/claim/cut.py" 2105]⟩), ⟨[]⟩⟩
def o1282 (P : Params) : Obj := ⟨.type "frame", none, .plain, ⟨[(some (.ref 1281)), (some (.ref 3)), (some (.ref 1278)), none, (some (.str "rulewardens.onlookers" 2085)), none, (some (.ref 0))]⟩⟩
def o1283 (P : Params) : Obj := ⟨.type "tuple", none, (.seq ⟨[]⟩ 0), ⟨[]⟩⟩
def o1284 (P : Params) : Obj := ⟨.none, none, (.fields ⟨[]⟩), ⟨[]⟩⟩
def o1285 (P : Params) : Obj := ⟨.type "tuple", none, (.seq ⟨[.str "self" 2114, .str "letters" 2115, .str "classes" 2116]⟩ 0), ⟨[]⟩⟩
def o1286 (P : Params) : Obj := ⟨.type "tuple", none, (.seq ⟨[]⟩ 0), ⟨[]⟩⟩
def o1287 (P : Params) : Obj := ⟨.none, none, (.func ⟨"__init__", "Onlooker.__init__", dArgs (inC (top 203) 0), .stmts (dBody (inC (top 203) 0)), dScope (inC (top 203) 0), 0, [], .none, .none, .none, .none, none, .none, .none, 0⟩), ⟨[]⟩⟩
def o1288 (P : Params) : Obj := ⟨.type "code", none, (.fields ⟨[.str "__init__" 2111, .str "Onlooker.__init__" 2112, .str "/claim/cut.py" 2113, .int 871 0, .int 3 0, .int 0 0, .int 0 0, .int 3 0, .ref 1283, .bool true, .int 181 0, .ref 1284, .none, .ref 1285, .ref 1286, .ref 1287, .int 2117 0, .int 871 0, .str "/claim/cut.py" 2118]⟩), ⟨[]⟩⟩
def o1289 (P : Params) : Obj := ⟨.type "function", none, (.func ⟨"__init__", "Onlooker.__init__", dArgs (inC (top 203) 0), .stmts (dBody (inC (top 203) 0)), dScope (inC (top 203) 0), 3, [], .none, .none, .none, .str "rulewardens.onlookers" 2085, none, .ref 1288, .none, 0⟩), ⟨[]⟩⟩
def o1290 (P : Params) : Obj := ⟨.type "tuple", none, (.seq ⟨[]⟩ 0), ⟨[]⟩⟩
def o1291 (P : Params) : Obj := ⟨.none, none, (.fields ⟨[]⟩), ⟨[]⟩⟩
def o1292 (P : Params) : Obj := ⟨.type "tuple", none, (.seq ⟨[.str "self" 2123, .str "other" 2124]⟩ 0), ⟨[]⟩⟩
def o1293 (P : Params) : Obj := ⟨.type "tuple", none, (.seq ⟨[]⟩ 0), ⟨[]⟩⟩
def o1294 (P : Params) : Obj := ⟨.none, none, (.func ⟨"__eq__", "Onlooker.__eq__", dArgs (inC (top 203) 1), .stmts (dBody (inC (top 203) 1)), dScope (inC (top 203) 1), 0, [], .none, .none, .none, .none, none, .none, .none, 0⟩), ⟨[]⟩⟩
def o1295 (P : Params) : Obj := ⟨.type "code", none, (.fields ⟨[.str "__eq__" 2120, .str "Onlooker.__eq__" 2121, .str "/claim/cut.py" 2122, .int 879 0, .int 2 0, .int 0 0, .int 0 0, .int 3 0, .ref 1290, .bool true, .int 181 0, .ref 1291, .none, .ref 1292, .ref 1293, .ref 1294, .int 2125 0, .int 879 0, .str "/claim/cut.py" 2126]⟩), ⟨[]⟩⟩
def o1296 (P : Params) : Obj := ⟨.type "function", none, (.func ⟨"__eq__", "Onlooker.__eq__", dArgs (inC (top 203) 1), .stmts (dBody (inC (top 203) 1)), dScope (inC (top 203) 1), 3, [], .none, .none, .none, .str "rulewardens.onlookers" 2085, none, .ref 1295, .none, 0⟩), ⟨[]⟩⟩
def o1297 (P : Params) : Obj := ⟨.type "tuple", none, (.seq ⟨[]⟩ 0), ⟨[]⟩⟩
def o1298 (P : Params) : Obj := ⟨.none, none, (.fields ⟨[]⟩), ⟨[]⟩⟩
def o1299 (P : Params) : Obj := ⟨.type "tuple", none, (.seq ⟨[.str "self" 2131, .str "other" 2132, .str "letters" 2133]⟩ 0), ⟨[]⟩⟩
def o1300 (P : Params) : Obj := ⟨.type "tuple", none, (.seq ⟨[]⟩ 0), ⟨[]⟩⟩
def o1301 (P : Params) : Obj := ⟨.none, none, (.func ⟨"__or__", "Onlooker.__or__", dArgs (inC (top 203) 2), .stmts (dBody (inC (top 203) 2)), dScope (inC (top 203) 2), 0, [], .none, .none, .none, .none, none, .none, .none, 0⟩), ⟨[]⟩⟩
def o1302 (P : Params) : Obj := ⟨.type "code", none, (.fields ⟨[.str "__or__" 2128, .str "Onlooker.__or__" 2129, .str "/claim/cut.py" 2130, .int 882 0, .int 2 0, .int 0 0, .int 0 0, .int 3 0, .ref 1297, .bool true, .int 181 0, .ref 1298, .none, .ref 1299, .ref 1300, .ref 1301, .int 2134 0, .int 882 0, .str "/claim/cut.py" 2135]⟩), ⟨[]⟩⟩
def o1303 (P : Params) : Obj := ⟨.type "function", none, (.func ⟨"__or__", "Onlooker.__or__", dArgs (inC (top 203) 2), .stmts (dBody (inC (top 203) 2)), dScope (inC (top 203) 2), 3, [], .none, .none, .none, .str "rulewardens.onlookers" 2085, none, .ref 1302, .none, 0⟩), ⟨[]⟩⟩
def o1304 (P : Params) : Obj := ⟨.type "tuple", none, (.seq ⟨[]⟩ 0), ⟨[]⟩⟩
def o1305 (P : Params) : Obj := ⟨.none, none, (.fields ⟨[]⟩), ⟨[]⟩⟩
def o1306 (P : Params) : Obj := ⟨.type "tuple", none, (.seq ⟨[.str "self" 2140, .str "other" 2141]⟩ 0), ⟨[]⟩⟩
def o1307 (P : Params) : Obj := ⟨.type "tuple", none, (.seq ⟨[]⟩ 0), ⟨[]⟩⟩
def o1308 (P : Params) : Obj := ⟨.none, none, (.func ⟨"sees_all_of", "Onlooker.sees_all_of", dArgs (inC (top 203) 3), .stmts (dBody (inC (top 203) 3)), dScope (inC (top 203) 3), 0, [], .none, .none, .none, .none, none, .none, .none, 0⟩), ⟨[]⟩⟩
def o1309 (P : Params) : Obj := ⟨.type "code", none, (.fields ⟨[.str "sees_all_of" 2137, .str "Onlooker.sees_all_of" 2138, .str "/claim/cut.py" 2139, .int 888 0, .int 2 0, .int 0 0, .int 0 0, .int 3 0, .ref 1304, .bool true, .int 181 0, .ref 1305, .none, .ref 1306, .ref 1307, .ref 1308, .int 2142 0, .int 888 0, .str "/claim/cut.py" 2143]⟩), ⟨[]⟩⟩
def o1310 (P : Params) : Obj := ⟨.type "function", none, (.func ⟨"sees_all_of", "Onlooker.sees_all_of", dArgs (inC (top 203) 3), .stmts (dBody (inC (top 203) 3)), dScope (inC (top 203) 3), 3, [], .none, .none, .none, .str "rulewardens.onlookers" 2085, none, .ref 1309, .none, 0⟩), ⟨[]⟩⟩
def o1311 (P : Params) : Obj := ⟨.type "tuple", none, (.seq ⟨[.str "classes" 2145, .str "letters" 2146]⟩ 0), ⟨[]⟩⟩
def o1312 (P : Params) : Obj := ⟨.type "dict", none, (.dict ⟨[⟨hs P "__module__", .str "__module__" 2106, .str "rulewardens.onlookers" 2085⟩, ⟨hs P "__firstlineno__", .str "__firstlineno__" 2110, .int 869 2109⟩, ⟨hs P "__init__", .str "__init__" 2119, .ref 1289⟩, ⟨hs P "__eq__", .str "__eq__" 2127, .ref 1296⟩, ⟨hs P "__or__", .str "__or__" 2136, .ref 1303⟩, ⟨hs P "sees_all_of", .str "sees_all_of" 2144, .ref 1310⟩, ⟨hs P "__static_attributes__", .str "__static_attributes__" 2147, .ref 1311⟩, ⟨hs P "__dict__", .str "__dict__" 2149, .ref 1314⟩, ⟨hs P "__weakref__", .str "__weakref__" 2151, .ref 1315⟩, ⟨hs P "__doc__", .str "__doc__" 2152, .none⟩, ⟨hs P "__hash__", .str "__hash__" 2153, .none⟩]⟩ 5), ⟨[]⟩⟩
def o1313 (P : Params) : Obj := ⟨.type "type", none, (.cls ⟨"Onlooker", [.type "object"], [.ref 1313, .type "object"], 1312, "Onlooker", true, [], [], false, none, false⟩), ⟨[none, none, (some (.str "Onlooker" 2099)), (some (.str "Onlooker" 2107)), (some (.builtin "object.__new__")), (some (.bool true))]⟩⟩
def o1314 (P : Params) : Obj := ⟨.type "getset_descriptor", none, (.fields ⟨[.str "__dict__" 2148, .ref 1313, .builtin "function.__dict__", .builtin "function.__dict__#set"]⟩), ⟨[]⟩⟩
def o1315 (P : Params) : Obj := ⟨.type "getset_descriptor", none, (.fields ⟨[.str "__weakref__" 2150, .ref 1313, .builtin "ExceptionGroup.__weakref__", .none]⟩), ⟨[]⟩⟩
def o1316 (P : Params) : Obj := ⟨.type "super", none, (.fields ⟨[.ref 1313, .ref 1313, .ref 1313]⟩), ⟨[]⟩⟩
def o1317 (P : Params) : Obj := ⟨.type "builtin_function_or_method", none, (.fields ⟨[.builtin "object.__init_subclass__", .ref 1313]⟩), ⟨[]⟩⟩
def t204_31 (P : Params) : BT := (.node (o31 P) (.node (o63 P) (.node (o127 P) (.node (o255 P) (.node (o511 P) (.node (o1023 P) .nil .nil) .nil) (.node (o767 P) (.node (o1279 P) .nil .nil) .nil)) (.node (o383 P) (.node (o639 P) (.node (o1151 P) .nil .nil) .nil) (.node (o895 P) .nil .nil))) (.node (o191 P) (.node (o319 P) (.node (o575 P) (.node (o1087 P) .nil .nil) .nil) (.node (o831 P) .nil .nil)) (.node (o447 P) (.node (o703 P) (.node (o1215 P) .nil .nil) .nil) (.node (o959 P) .nil .nil)))) (.node (o95 P) (.node (o159 P) (.node (o287 P) (.node (o543 P) (.node (o1055 P) .nil .nil) .nil) (.node (o799 P) (.node (o1311 P) .nil .nil) .nil)) (.node (o415 P) (.node (o671 P) (.node (o1183 P) .nil .nil) .nil) (.node (o927 P) .nil .nil))) (.node (o223 P) (.node (o351 P) (.node (o607 P) (.node (o1119 P) .nil .nil) .nil) (.node (o863 P) .nil .nil)) (.node (o479 P) (.node (o735 P) (.node (o1247 P) .nil .nil) .nil) (.node (o991 P) .nil .nil)))))
def t204_47 (P : Params) : BT := (.node (o47 P) (.node (o79 P) (.node (o143 P) (.node (o271 P) (.node (o527 P) (.node (o1039 P) .nil .nil) .nil) (.node (o783 P) (.node (o1295 P) .nil .nil) .nil)) (.node (o399 P) (.node (o655 P) (.node (o1167 P) .nil .nil) .nil) (.node (o911 P) .nil .nil))) (.node (o207 P) (.node (o335 P) (.node (o591 P) (.node (o1103 P) .nil .nil) .nil) (.node (o847 P) .nil .nil)) (.node (o463 P) (.node (o719 P) (.node (o1231 P) .nil .nil) .nil) (.node (o975 P) .nil .nil)))) (.node (o111 P) (.node (o175 P) (.node (o303 P) (.node (o559 P) (.node (o1071 P) .nil .nil) .nil) (.node (o815 P) .nil .nil)) (.node (o431 P) (.node (o687 P) (.node (o1199 P) .nil .nil) .nil) (.node (o943 P) .nil .nil))) (.node (o239 P) (.node (o367 P) (.node (o623 P) (.node (o1135 P) .nil .nil) .nil) (.node (o879 P) .nil .nil)) (.node (o495 P) (.node (o751 P) (.node (o1263 P) .nil .nil) .nil) (.node (o1007 P) .nil .nil)))))
def t204_39 (P : Params) : BT := (.node (o39 P) (.node (o71 P) (.node (o135 P) (.node (o263 P) (.node (o519 P) (.node (o1031 P) .nil .nil) .nil) (.node (o775 P) (.node (o1287 P) .nil .nil) .nil)) (.node (o391 P) (.node (o647 P) (.node (o1159 P) .nil .nil) .nil) (.node (o903 P) .nil .nil))) (.node (o199 P) (.node (o327 P) (.node (o583 P) (.node (o1095 P) .nil .nil) .nil) (.node (o839 P) .nil .nil)) (.node (o455 P) (.node (o711 P) (.node (o1223 P) .nil .nil) .nil) (.node (o967 P) .nil .nil)))) (.node (o103 P) (.node (o167 P) (.node (o295 P) (.node (o551 P) (.node (o1063 P) .nil .nil) .nil) (.node (o807 P) .nil .nil)) (.node (o423 P) (.node (o679 P) (.node (o1191 P) .nil .nil) .nil) (.node (o935 P) .nil .nil))) (.node (o231 P) (.node (o359 P) (.node (o615 P) (.node (o1127 P) .nil .nil) .nil) (.node (o871 P) .nil .nil)) (.node (o487 P) (.node (o743 P) (.node (o1255 P) .nil .nil) .nil) (.node (o999 P) .nil .nil)))))
def t204_55 (P : Params) : BT := (.node (o55 P) (.node (o87 P) (.node (o151 P) (.node (o279 P) (.node (o535 P) (.node (o1047 P) .nil .nil) .nil) (.node (o791 P) (.node (o1303 P) .nil .nil) .nil)) (.node (o407 P) (.node (o663 P) (.node (o1175 P) .nil .nil) .nil) (.node (o919 P) .nil .nil))) (.node (o215 P) (.node (o343 P) (.node (o599 P) (.node (o1111 P) .nil .nil) .nil) (.node (o855 P) .nil .nil)) (.node (o471 P) (.node (o727 P) (.node (o1239 P) .nil .nil) .nil) (.node (o983 P) .nil .nil)))) (.node (o119 P) (.node (o183 P) (.node (o311 P) (.node (o567 P) (.node (o1079 P) .nil .nil) .nil) (.node (o823 P) .nil .nil)) (.node (o439 P) (.node (o695 P) (.node (o1207 P) .nil .nil) .nil) (.node (o951 P) .nil .nil))) (.node (o247 P) (.node (o375 P) (.node (o631 P) (.node (o1143 P) .nil .nil) .nil) (.node (o887 P) .nil .nil)) (.node (o503 P) (.node (o759 P) (.node (o1271 P) .nil .nil) .nil) (.node (o1015 P) .nil .nil)))))
def t204_35 (P : Params) : BT := (.node (o35 P) (.node (o67 P) (.node (o131 P) (.node (o259 P) (.node (o515 P) (.node (o1027 P) .nil .nil) .nil) (.node (o771 P) (.node (o1283 P) .nil .nil) .nil)) (.node (o387 P) (.node (o643 P) (.node (o1155 P) .nil .nil) .nil) (.node (o899 P) .nil .nil))) (.node (o195 P) (.node (o323 P) (.node (o579 P) (.node (o1091 P) .nil .nil) .nil) (.node (o835 P) .nil .nil)) (.node (o451 P) (.node (o707 P) (.node (o1219 P) .nil .nil) .nil) (.node (o963 P) .nil .nil)))) (.node (o99 P) (.node (o163 P) (.node (o291 P) (.node (o547 P) (.node (o1059 P) .nil .nil) .nil) (.node (o803 P) (.node (o1315 P) .nil .nil) .nil)) (.node (o419 P) (.node (o675 P) (.node (o1187 P) .nil .nil) .nil) (.node (o931 P) .nil .nil))) (.node (o227 P) (.node (o355 P) (.node (o611 P) (.node (o1123 P) .nil .nil) .nil) (.node (o867 P) .nil .nil)) (.node (o483 P) (.node (o739 P) (.node (o1251 P) .nil .nil) .nil) (.node (o995 P) .nil .nil)))))
def t204_51 (P : Params) : BT := (.node (o51 P) (.node (o83 P) (.node (o147 P) (.node (o275 P) (.node (o531 P) (.node (o1043 P) .nil .nil) .nil) (.node (o787 P) (.node (o1299 P) .nil .nil) .nil)) (.node (o403 P) (.node (o659 P) (.node (o1171 P) .nil .nil) .nil) (.node (o915 P) .nil .nil))) (.node (o211 P) (.node (o339 P) (.node (o595 P) (.node (o1107 P) .nil .nil) .nil) (.node (o851 P) .nil .nil)) (.node (o467 P) (.node (o723 P) (.node (o1235 P) .nil .nil) .nil) (.node (o979 P) .nil .nil)))) (.node (o115 P) (.node (o179 P) (.node (o307 P) (.node (o563 P) (.node (o1075 P) .nil .nil) .nil) (.node (o819 P) .nil .nil)) (.node (o435 P) (.node (o691 P) (.node (o1203 P) .nil .nil) .nil) (.node (o947 P) .nil .nil))) (.node (o243 P) (.node (o371 P) (.node (o627 P) (.node (o1139 P) .nil .nil) .nil) (.node (o883 P) .nil .nil)) (.node (o499 P) (.node (o755 P) (.node (o1267 P) .nil .nil) .nil) (.node (o1011 P) .nil .nil)))))
def t204_43 (P : Params) : BT := (.node (o43 P) (.node (o75 P) (.node (o139 P) (.node (o267 P) (.node (o523 P) (.node (o1035 P) .nil .nil) .nil) (.node (o779 P) (.node (o1291 P) .nil .nil) .nil)) (.node (o395 P) (.node (o651 P) (.node (o1163 P) .nil .nil) .nil) (.node (o907 P) .nil .nil))) (.node (o203 P) (.node (o331 P) (.node (o587 P) (.node (o1099 P) .nil .nil) .nil) (.node (o843 P) .nil .nil)) (.node (o459 P) (.node (o715 P) (.node (o1227 P) .nil .nil) .nil) (.node (o971 P) .nil .nil)))) (.node (o107 P) (.node (o171 P) (.node (o299 P) (.node (o555 P) (.node (o1067 P) .nil .nil) .nil) (.node (o811 P) .nil .nil)) (.node (o427 P) (.node (o683 P) (.node (o1195 P) .nil .nil) .nil) (.node (o939 P) .nil .nil))) (.node (o235 P) (.node (o363 P) (.node (o619 P) (.node (o1131 P) .nil .nil) .nil) (.node (o875 P) .nil .nil)) (.node (o491 P) (.node (o747 P) (.node (o1259 P) .nil .nil) .nil) (.node (o1003 P) .nil .nil)))))
def t204_59 (P : Params) : BT := (.node (o59 P) (.node (o91 P) (.node (o155 P) (.node (o283 P) (.node (o539 P) (.node (o1051 P) .nil .nil) .nil) (.node (o795 P) (.node (o1307 P) .nil .nil) .nil)) (.node (o411 P) (.node (o667 P) (.node (o1179 P) .nil .nil) .nil) (.node (o923 P) .nil .nil))) (.node (o219 P) (.node (o347 P) (.node (o603 P) (.node (o1115 P) .nil .nil) .nil) (.node (o859 P) .nil .nil)) (.node (o475 P) (.node (o731 P) (.node (o1243 P) .nil .nil) .nil) (.node (o987 P) .nil .nil)))) (.node (o123 P) (.node (o187 P) (.node (o315 P) (.node (o571 P) (.node (o1083 P) .nil .nil) .nil) (.node (o827 P) .nil .nil)) (.node (o443 P) (.node (o699 P) (.node (o1211 P) .nil .nil) .nil) (.node (o955 P) .nil .nil))) (.node (o251 P) (.node (o379 P) (.node (o635 P) (.node (o1147 P) .nil .nil) .nil) (.node (o891 P) .nil .nil)) (.node (o507 P) (.node (o763 P) (.node (o1275 P) .nil .nil) .nil) (.node (o1019 P) .nil .nil)))))
def t204_33 (P : Params) : BT := (.node (o33 P) (.node (o65 P) (.node (o129 P) (.node (o257 P) (.node (o513 P) (.node (o1025 P) .nil .nil) .nil) (.node (o769 P) (.node (o1281 P) .nil .nil) .nil)) (.node (o385 P) (.node (o641 P) (.node (o1153 P) .nil .nil) .nil) (.node (o897 P) .nil .nil))) (.node (o193 P) (.node (o321 P) (.node (o577 P) (.node (o1089 P) .nil .nil) .nil) (.node (o833 P) .nil .nil)) (.node (o449 P) (.node (o705 P) (.node (o1217 P) .nil .nil) .nil) (.node (o961 P) .nil .nil)))) (.node (o97 P) (.node (o161 P) (.node (o289 P) (.node (o545 P) (.node (o1057 P) .nil .nil) .nil) (.node (o801 P) (.node (o1313 P) .nil .nil) .nil)) (.node (o417 P) (.node (o673 P) (.node (o1185 P) .nil .nil) .nil) (.node (o929 P) .nil .nil))) (.node (o225 P) (.node (o353 P) (.node (o609 P) (.node (o1121 P) .nil .nil) .nil) (.node (o865 P) .nil .nil)) (.node (o481 P) (.node (o737 P) (.node (o1249 P) .nil .nil) .nil) (.node (o993 P) .nil .nil)))))
def t204_49 (P : Params) : BT := (.node (o49 P) (.node (o81 P) (.node (o145 P) (.node (o273 P) (.node (o529 P) (.node (o1041 P) .nil .nil) .nil) (.node (o785 P) (.node (o1297 P) .nil .nil) .nil)) (.node (o401 P) (.node (o657 P) (.node (o1169 P) .nil .nil) .nil) (.node (o913 P) .nil .nil))) (.node (o209 P) (.node (o337 P) (.node (o593 P) (.node (o1105 P) .nil .nil) .nil) (.node (o849 P) .nil .nil)) (.node (o465 P) (.node (o721 P) (.node (o1233 P) .nil .nil) .nil) (.node (o977 P) .nil .nil)))) (.node (o113 P) (.node (o177 P) (.node (o305 P) (.node (o561 P) (.node (o1073 P) .nil .nil) .nil) (.node (o817 P) .nil .nil)) (.node (o433 P) (.node (o689 P) (.node (o1201 P) .nil .nil) .nil) (.node (o945 P) .nil .nil))) (.node (o241 P) (.node (o369 P) (.node (o625 P) (.node (o1137 P) .nil .nil) .nil) (.node (o881 P) .nil .nil)) (.node (o497 P) (.node (o753 P) (.node (o1265 P) .nil .nil) .nil) (.node (o1009 P) .nil .nil)))))
def t204_41 (P : Params) : BT := (.node (o41 P) (.node (o73 P) (.node (o137 P) (.node (o265 P) (.node (o521 P) (.node (o1033 P) .nil .nil) .nil) (.node (o777 P) (.node (o1289 P) .nil .nil) .nil)) (.node (o393 P) (.node (o649 P) (.node (o1161 P) .nil .nil) .nil) (.node (o905 P) .nil .nil))) (.node (o201 P) (.node (o329 P) (.node (o585 P) (.node (o1097 P) .nil .nil) .nil) (.node (o841 P) .nil .nil)) (.node (o457 P) (.node (o713 P) (.node (o1225 P) .nil .nil) .nil) (.node (o969 P) .nil .nil)))) (.node (o105 P) (.node (o169 P) (.node (o297 P) (.node (o553 P) (.node (o1065 P) .nil .nil) .nil) (.node (o809 P) .nil .nil)) (.node (o425 P) (.node (o681 P) (.node (o1193 P) .nil .nil) .nil) (.node (o937 P) .nil .nil))) (.node (o233 P) (.node (o361 P) (.node (o617 P) (.node (o1129 P) .nil .nil) .nil) (.node (o873 P) .nil .nil)) (.node (o489 P) (.node (o745 P) (.node (o1257 P) .nil .nil) .nil) (.node (o1001 P) .nil .nil)))))
def t204_57 (P : Params) : BT := (.node (o57 P) (.node (o89 P) (.node (o153 P) (.node (o281 P) (.node (o537 P) (.node (o1049 P) .nil .nil) .nil) (.node (o793 P) (.node (o1305 P) .nil .nil) .nil)) (.node (o409 P) (.node (o665 P) (.node (o1177 P) .nil .nil) .nil) (.node (o921 P) .nil .nil))) (.node (o217 P) (.node (o345 P) (.node (o601 P) (.node (o1113 P) .nil .nil) .nil) (.node (o857 P) .nil .nil)) (.node (o473 P) (.node (o729 P) (.node (o1241 P) .nil .nil) .nil) (.node (o985 P) .nil .nil)))) (.node (o121 P) (.node (o185 P) (.node (o313 P) (.node (o569 P) (.node (o1081 P) .nil .nil) .nil) (.node (o825 P) .nil .nil)) (.node (o441 P) (.node (o697 P) (.node (o1209 P) .nil .nil) .nil) (.node (o953 P) .nil .nil))) (.node (o249 P) (.node (o377 P) (.node (o633 P) (.node (o1145 P) .nil .nil) .nil) (.node (o889 P) .nil .nil)) (.node (o505 P) (.node (o761 P) (.node (o1273 P) .nil .nil) .nil) (.node (o1017 P) .nil .nil)))))
def t204_37 (P : Params) : BT := (.node (o37 P) (.node (o69 P) (.node (o133 P) (.node (o261 P) (.node (o517 P) (.node (o1029 P) .nil .nil) .nil) (.node (o773 P) (.node (o1285 P) .nil .nil) .nil)) (.node (o389 P) (.node (o645 P) (.node (o1157 P) .nil .nil) .nil) (.node (o901 P) .nil .nil))) (.node (o197 P) (.node (o325 P) (.node (o581 P) (.node (o1093 P) .nil .nil) .nil) (.node (o837 P) .nil .nil)) (.node (o453 P) (.node (o709 P) (.node (o1221 P) .nil .nil) .nil) (.node (o965 P) .nil .nil)))) (.node (o101 P) (.node (o165 P) (.node (o293 P) (.node (o549 P) (.node (o1061 P) .nil .nil) .nil) (.node (o805 P) (.node (o1317 P) .nil .nil) .nil)) (.node (o421 P) (.node (o677 P) (.node (o1189 P) .nil .nil) .nil) (.node (o933 P) .nil .nil))) (.node (o229 P) (.node (o357 P) (.node (o613 P) (.node (o1125 P) .nil .nil) .nil) (.node (o869 P) .nil .nil)) (.node (o485 P) (.node (o741 P) (.node (o1253 P) .nil .nil) .nil) (.node (o997 P) .nil .nil)))))
def t204_53 (P : Params) : BT := (.node (o53 P) (.node (o85 P) (.node (o149 P) (.node (o277 P) (.node (o533 P) (.node (o1045 P) .nil .nil) .nil) (.node (o789 P) (.node (o1301 P) .nil .nil) .nil)) (.node (o405 P) (.node (o661 P) (.node (o1173 P) .nil .nil) .nil) (.node (o917 P) .nil .nil))) (.node (o213 P) (.node (o341 P) (.node (o597 P) (.node (o1109 P) .nil .nil) .nil) (.node (o853 P) .nil .nil)) (.node (o469 P) (.node (o725 P) (.node (o1237 P) .nil .nil) .nil) (.node (o981 P) .nil .nil)))) (.node (o117 P) (.node (o181 P) (.node (o309 P) (.node (o565 P) (.node (o1077 P) .nil .nil) .nil) (.node (o821 P) .nil .nil)) (.node (o437 P) (.node (o693 P) (.node (o1205 P) .nil .nil) .nil) (.node (o949 P) .nil .nil))) (.node (o245 P) (.node (o373 P) (.node (o629 P) (.node (o1141 P) .nil .nil) .nil) (.node (o885 P) .nil .nil)) (.node (o501 P) (.node (o757 P) (.node (o1269 P) .nil .nil) .nil) (.node (o1013 P) .nil .nil)))))
def t204_45 (P : Params) : BT := (.node (o45 P) (.node (o77 P) (.node (o141 P) (.node (o269 P) (.node (o525 P) (.node (o1037 P) .nil .nil) .nil) (.node (o781 P) (.node (o1293 P) .nil .nil) .nil)) (.node (o397 P) (.node (o653 P) (.node (o1165 P) .nil .nil) .nil) (.node (o909 P) .nil .nil))) (.node (o205 P) (.node (o333 P) (.node (o589 P) (.node (o1101 P) .nil .nil) .nil) (.node (o845 P) .nil .nil)) (.node (o461 P) (.node (o717 P) (.node (o1229 P) .nil .nil) .nil) (.node (o973 P) .nil .nil)))) (.node (o109 P) (.node (o173 P) (.node (o301 P) (.node (o557 P) (.node (o1069 P) .nil .nil) .nil) (.node (o813 P) .nil .nil)) (.node (o429 P) (.node (o685 P) (.node (o1197 P) .nil .nil) .nil) (.node (o941 P) .nil .nil))) (.node (o237 P) (.node (o365 P) (.node (o621 P) (.node (o1133 P) .nil .nil) .nil) (.node (o877 P) .nil .nil)) (.node (o493 P) (.node (o749 P) (.node (o1261 P) .nil .nil) .nil) (.node (o1005 P) .nil .nil)))))
def t204_61 (P : Params) : BT := (.node (o61 P) (.node (o93 P) (.node (o157 P) (.node (o285 P) (.node (o541 P) (.node (o1053 P) .nil .nil) .nil) (.node (o797 P) (.node (o1309 P) .nil .nil) .nil)) (.node (o413 P) (.node (o669 P) (.node (o1181 P) .nil .nil) .nil) (.node (o925 P) .nil .nil))) (.node (o221 P) (.node (o349 P) (.node (o605 P) (.node (o1117 P) .nil .nil) .nil) (.node (o861 P) .nil .nil)) (.node (o477 P) (.node (o733 P) (.node (o1245 P) .nil .nil) .nil) (.node (o989 P) .nil .nil)))) (.node (o125 P) (.node (o189 P) (.node (o317 P) (.node (o573 P) (.node (o1085 P) .nil .nil) .nil) (.node (o829 P) .nil .nil)) (.node (o445 P) (.node (o701 P) (.node (o1213 P) .nil .nil) .nil) (.node (o957 P) .nil .nil))) (.node (o253 P) (.node (o381 P) (.node (o637 P) (.node (o1149 P) .nil .nil) .nil) (.node (o893 P) .nil .nil)) (.node (o509 P) (.node (o765 P) (.node (o1277 P) .nil .nil) .nil) (.node (o1021 P) .nil .nil)))))
def t204_32 (P : Params) : BT := (.node (o32 P) (.node (o64 P) (.node (o128 P) (.node (o256 P) (.node (o512 P) (.node (o1024 P) .nil .nil) .nil) (.node (o768 P) (.node (o1280 P) .nil .nil) .nil)) (.node (o384 P) (.node (o640 P) (.node (o1152 P) .nil .nil) .nil) (.node (o896 P) .nil .nil))) (.node (o192 P) (.node (o320 P) (.node (o576 P) (.node (o1088 P) .nil .nil) .nil) (.node (o832 P) .nil .nil)) (.node (o448 P) (.node (o704 P) (.node (o1216 P) .nil .nil) .nil) (.node (o960 P) .nil .nil)))) (.node (o96 P) (.node (o160 P) (.node (o288 P) (.node (o544 P) (.node (o1056 P) .nil .nil) .nil) (.node (o800 P) (.node (o1312 P) .nil .nil) .nil)) (.node (o416 P) (.node (o672 P) (.node (o1184 P) .nil .nil) .nil) (.node (o928 P) .nil .nil))) (.node (o224 P) (.node (o352 P) (.node (o608 P) (.node (o1120 P) .nil .nil) .nil) (.node (o864 P) .nil .nil)) (.node (o480 P) (.node (o736 P) (.node (o1248 P) .nil .nil) .nil) (.node (o992 P) .nil .nil)))))
def t204_48 (P : Params) : BT := (.node (o48 P) (.node (o80 P) (.node (o144 P) (.node (o272 P) (.node (o528 P) (.node (o1040 P) .nil .nil) .nil) (.node (o784 P) (.node (o1296 P) .nil .nil) .nil)) (.node (o400 P) (.node (o656 P) (.node (o1168 P) .nil .nil) .nil) (.node (o912 P) .nil .nil))) (.node (o208 P) (.node (o336 P) (.node (o592 P) (.node (o1104 P) .nil .nil) .nil) (.node (o848 P) .nil .nil)) (.node (o464 P) (.node (o720 P) (.node (o1232 P) .nil .nil) .nil) (.node (o976 P) .nil .nil)))) (.node (o112 P) (.node (o176 P) (.node (o304 P) (.node (o560 P) (.node (o1072 P) .nil .nil) .nil) (.node (o816 P) .nil .nil)) (.node (o432 P) (.node (o688 P) (.node (o1200 P) .nil .nil) .nil) (.node (o944 P) .nil .nil))) (.node (o240 P) (.node (o368 P) (.node (o624 P) (.node (o1136 P) .nil .nil) .nil) (.node (o880 P) .nil .nil)) (.node (o496 P) (.node (o752 P) (.node (o1264 P) .nil .nil) .nil) (.node (o1008 P) .nil .nil)))))
def t204_40 (P : Params) : BT := (.node (o40 P) (.node (o72 P) (.node (o136 P) (.node (o264 P) (.node (o520 P) (.node (o1032 P) .nil .nil) .nil) (.node (o776 P) (.node (o1288 P) .nil .nil) .nil)) (.node (o392 P) (.node (o648 P) (.node (o1160 P) .nil .nil) .nil) (.node (o904 P) .nil .nil))) (.node (o200 P) (.node (o328 P) (.node (o584 P) (.node (o1096 P) .nil .nil) .nil) (.node (o840 P) .nil .nil)) (.node (o456 P) (.node (o712 P) (.node (o1224 P) .nil .nil) .nil) (.node (o968 P) .nil .nil)))) (.node (o104 P) (.node (o168 P) (.node (o296 P) (.node (o552 P) (.node (o1064 P) .nil .nil) .nil) (.node (o808 P) .nil .nil)) (.node (o424 P) (.node (o680 P) (.node (o1192 P) .nil .nil) .nil) (.node (o936 P) .nil .nil))) (.node (o232 P) (.node (o360 P) (.node (o616 P) (.node (o1128 P) .nil .nil) .nil) (.node (o872 P) .nil .nil)) (.node (o488 P) (.node (o744 P) (.node (o1256 P) .nil .nil) .nil) (.node (o1000 P) .nil .nil)))))
def t204_56 (P : Params) : BT := (.node (o56 P) (.node (o88 P) (.node (o152 P) (.node (o280 P) (.node (o536 P) (.node (o1048 P) .nil .nil) .nil) (.node (o792 P) (.node (o1304 P) .nil .nil) .nil)) (.node (o408 P) (.node (o664 P) (.node (o1176 P) .nil .nil) .nil) (.node (o920 P) .nil .nil))) (.node (o216 P) (.node (o344 P) (.node (o600 P) (.node (o1112 P) .nil .nil) .nil) (.node (o856 P) .nil .nil)) (.node (o472 P) (.node (o728 P) (.node (o1240 P) .nil .nil) .nil) (.node (o984 P) .nil .nil)))) (.node (o120 P) (.node (o184 P) (.node (o312 P) (.node (o568 P) (.node (o1080 P) .nil .nil) .nil) (.node (o824 P) .nil .nil)) (.node (o440 P) (.node (o696 P) (.node (o1208 P) .nil .nil) .nil) (.node (o952 P) .nil .nil))) (.node (o248 P) (.node (o376 P) (.node (o632 P) (.node (o1144 P) .nil .nil) .nil) (.node (o888 P) .nil .nil)) (.node (o504 P) (.node (o760 P) (.node (o1272 P) .nil .nil) .nil) (.node (o1016 P) .nil .nil)))))
def t204_36 (P : Params) : BT := (.node (o36 P) (.node (o68 P) (.node (o132 P) (.node (o260 P) (.node (o516 P) (.node (o1028 P) .nil .nil) .nil) (.node (o772 P) (.node (o1284 P) .nil .nil) .nil)) (.node (o388 P) (.node (o644 P) (.node (o1156 P) .nil .nil) .nil) (.node (o900 P) .nil .nil))) (.node (o196 P) (.node (o324 P) (.node (o580 P) (.node (o1092 P) .nil .nil) .nil) (.node (o836 P) .nil .nil)) (.node (o452 P) (.node (o708 P) (.node (o1220 P) .nil .nil) .nil) (.node (o964 P) .nil .nil)))) (.node (o100 P) (.node (o164 P) (.node (o292 P) (.node (o548 P) (.node (o1060 P) .nil .nil) .nil) (.node (o804 P) (.node (o1316 P) .nil .nil) .nil)) (.node (o420 P) (.node (o676 P) (.node (o1188 P) .nil .nil) .nil) (.node (o932 P) .nil .nil))) (.node (o228 P) (.node (o356 P) (.node (o612 P) (.node (o1124 P) .nil .nil) .nil) (.node (o868 P) .nil .nil)) (.node (o484 P) (.node (o740 P) (.node (o1252 P) .nil .nil) .nil) (.node (o996 P) .nil .nil)))))
def t204_52 (P : Params) : BT := (.node (o52 P) (.node (o84 P) (.node (o148 P) (.node (o276 P) (.node (o532 P) (.node (o1044 P) .nil .nil) .nil) (.node (o788 P) (.node (o1300 P) .nil .nil) .nil)) (.node (o404 P) (.node (o660 P) (.node (o1172 P) .nil .nil) .nil) (.node (o916 P) .nil .nil))) (.node (o212 P) (.node (o340 P) (.node (o596 P) (.node (o1108 P) .nil .nil) .nil) (.node (o852 P) .nil .nil)) (.node (o468 P) (.node (o724 P) (.node (o1236 P) .nil .nil) .nil) (.node (o980 P) .nil .nil)))) (.node (o116 P) (.node (o180 P) (.node (o308 P) (.node (o564 P) (.node (o1076 P) .nil .nil) .nil) (.node (o820 P) .nil .nil)) (.node (o436 P) (.node (o692 P) (.node (o1204 P) .nil .nil) .nil) (.node (o948 P) .nil .nil))) (.node (o244 P) (.node (o372 P) (.node (o628 P) (.node (o1140 P) .nil .nil) .nil) (.node (o884 P) .nil .nil)) (.node (o500 P) (.node (o756 P) (.node (o1268 P) .nil .nil) .nil) (.node (o1012 P) .nil .nil)))))
def t204_44 (P : Params) : BT := (.node (o44 P) (.node (o76 P) (.node (o140 P) (.node (o268 P) (.node (o524 P) (.node (o1036 P) .nil .nil) .nil) (.node (o780 P) (.node (o1292 P) .nil .nil) .nil)) (.node (o396 P) (.node (o652 P) (.node (o1164 P) .nil .nil) .nil) (.node (o908 P) .nil .nil))) (.node (o204 P) (.node (o332 P) (.node (o588 P) (.node (o1100 P) .nil .nil) .nil) (.node (o844 P) .nil .nil)) (.node (o460 P) (.node (o716 P) (.node (o1228 P) .nil .nil) .nil) (.node (o972 P) .nil .nil)))) (.node (o108 P) (.node (o172 P) (.node (o300 P) (.node (o556 P) (.node (o1068 P) .nil .nil) .nil) (.node (o812 P) .nil .nil)) (.node (o428 P) (.node (o684 P) (.node (o1196 P) .nil .nil) .nil) (.node (o940 P) .nil .nil))) (.node (o236 P) (.node (o364 P) (.node (o620 P) (.node (o1132 P) .nil .nil) .nil) (.node (o876 P) .nil .nil)) (.node (o492 P) (.node (o748 P) (.node (o1260 P) .nil .nil) .nil) (.node (o1004 P) .nil .nil)))))
def t204_60 (P : Params) : BT := (.node (o60 P) (.node (o92 P) (.node (o156 P) (.node (o284 P) (.node (o540 P) (.node (o1052 P) .nil .nil) .nil) (.node (o796 P) (.node (o1308 P) .nil .nil) .nil)) (.node (o412 P) (.node (o668 P) (.node (o1180 P) .nil .nil) .nil) (.node (o924 P) .nil .nil))) (.node (o220 P) (.node (o348 P) (.node (o604 P) (.node (o1116 P) .nil .nil) .nil) (.node (o860 P) .nil .nil)) (.node (o476 P) (.node (o732 P) (.node (o1244 P) .nil .nil) .nil) (.node (o988 P) .nil .nil)))) (.node (o124 P) (.node (o188 P) (.node (o316 P) (.node (o572 P) (.node (o1084 P) .nil .nil) .nil) (.node (o828 P) .nil .nil)) (.node (o444 P) (.node (o700 P) (.node (o1212 P) .nil .nil) .nil) (.node (o956 P) .nil .nil))) (.node (o252 P) (.node (o380 P) (.node (o636 P) (.node (o1148 P) .nil .nil) .nil) (.node (o892 P) .nil .nil)) (.node (o508 P) (.node (o764 P) (.node (o1276 P) .nil .nil) .nil) (.node (o1020 P) .nil .nil)))))
def t204_34 (P : Params) : BT := (.node (o34 P) (.node (o66 P) (.node (o130 P) (.node (o258 P) (.node (o514 P) (.node (o1026 P) .nil .nil) .nil) (.node (o770 P) (.node (o1282 P) .nil .nil) .nil)) (.node (o386 P) (.node (o642 P) (.node (o1154 P) .nil .nil) .nil) (.node (o898 P) .nil .nil))) (.node (o194 P) (.node (o322 P) (.node (o578 P) (.node (o1090 P) .nil .nil) .nil) (.node (o834 P) .nil .nil)) (.node (o450 P) (.node (o706 P) (.node (o1218 P) .nil .nil) .nil) (.node (o962 P) .nil .nil)))) (.node (o98 P) (.node (o162 P) (.node (o290 P) (.node (o546 P) (.node (o1058 P) .nil .nil) .nil) (.node (o802 P) (.node (o1314 P) .nil .nil) .nil)) (.node (o418 P) (.node (o674 P) (.node (o1186 P) .nil .nil) .nil) (.node (o930 P) .nil .nil))) (.node (o226 P) (.node (o354 P) (.node (o610 P) (.node (o1122 P) .nil .nil) .nil) (.node (o866 P) .nil .nil)) (.node (o482 P) (.node (o738 P) (.node (o1250 P) .nil .nil) .nil) (.node (o994 P) .nil .nil)))))
def t204_50 (P : Params) : BT := (.node (o50 P) (.node (o82 P) (.node (o146 P) (.node (o274 P) (.node (o530 P) (.node (o1042 P) .nil .nil) .nil) (.node (o786 P) (.node (o1298 P) .nil .nil) .nil)) (.node (o402 P) (.node (o658 P) (.node (o1170 P) .nil .nil) .nil) (.node (o914 P) .nil .nil))) (.node (o210 P) (.node (o338 P) (.node (o594 P) (.node (o1106 P) .nil .nil) .nil) (.node (o850 P) .nil .nil)) (.node (o466 P) (.node (o722 P) (.node (o1234 P) .nil .nil) .nil) (.node (o978 P) .nil .nil)))) (.node (o114 P) (.node (o178 P) (.node (o306 P) (.node (o562 P) (.node (o1074 P) .nil .nil) .nil) (.node (o818 P) .nil .nil)) (.node (o434 P) (.node (o690 P) (.node (o1202 P) .nil .nil) .nil) (.node (o946 P) .nil .nil))) (.node (o242 P) (.node (o370 P) (.node (o626 P) (.node (o1138 P) .nil .nil) .nil) (.node (o882 P) .nil .nil)) (.node (o498 P) (.node (o754 P) (.node (o1266 P) .nil .nil) .nil) (.node (o1010 P) .nil .nil)))))
def t204_42 (P : Params) : BT := (.node (o42 P) (.node (o74 P) (.node (o138 P) (.node (o266 P) (.node (o522 P) (.node (o1034 P) .nil .nil) .nil) (.node (o778 P) (.node (o1290 P) .nil .nil) .nil)) (.node (o394 P) (.node (o650 P) (.node (o1162 P) .nil .nil) .nil) (.node (o906 P) .nil .nil))) (.node (o202 P) (.node (o330 P) (.node (o586 P) (.node (o1098 P) .nil .nil) .nil) (.node (o842 P) .nil .nil)) (.node (o458 P) (.node (o714 P) (.node (o1226 P) .nil .nil) .nil) (.node (o970 P) .nil .nil)))) (.node (o106 P) (.node (o170 P) (.node (o298 P) (.node (o554 P) (.node (o1066 P) .nil .nil) .nil) (.node (o810 P) .nil .nil)) (.node (o426 P) (.node (o682 P) (.node (o1194 P) .nil .nil) .nil) (.node (o938 P) .nil .nil))) (.node (o234 P) (.node (o362 P) (.node (o618 P) (.node (o1130 P) .nil .nil) .nil) (.node (o874 P) .nil .nil)) (.node (o490 P) (.node (o746 P) (.node (o1258 P) .nil .nil) .nil) (.node (o1002 P) .nil .nil)))))
def t204_58 (P : Params) : BT := (.node (o58 P) (.node (o90 P) (.node (o154 P) (.node (o282 P) (.node (o538 P) (.node (o1050 P) .nil .nil) .nil) (.node (o794 P) (.node (o1306 P) .nil .nil) .nil)) (.node (o410 P) (.node (o666 P) (.node (o1178 P) .nil .nil) .nil) (.node (o922 P) .nil .nil))) (.node (o218 P) (.node (o346 P) (.node (o602 P) (.node (o1114 P) .nil .nil) .nil) (.node (o858 P) .nil .nil)) (.node (o474 P) (.node (o730 P) (.node (o1242 P) .nil .nil) .nil) (.node (o986 P) .nil .nil)))) (.node (o122 P) (.node (o186 P) (.node (o314 P) (.node (o570 P) (.node (o1082 P) .nil .nil) .nil) (.node (o826 P) .nil .nil)) (.node (o442 P) (.node (o698 P) (.node (o1210 P) .nil .nil) .nil) (.node (o954 P) .nil .nil))) (.node (o250 P) (.node (o378 P) (.node (o634 P) (.node (o1146 P) .nil .nil) .nil) (.node (o890 P) .nil .nil)) (.node (o506 P) (.node (o762 P) (.node (o1274 P) .nil .nil) .nil) (.node (o1018 P) .nil .nil)))))
def t204_38 (P : Params) : BT := (.node (o38 P) (.node (o70 P) (.node (o134 P) (.node (o262 P) (.node (o518 P) (.node (o1030 P) .nil .nil) .nil) (.node (o774 P) (.node (o1286 P) .nil .nil) .nil)) (.node (o390 P) (.node (o646 P) (.node (o1158 P) .nil .nil) .nil) (.node (o902 P) .nil .nil))) (.node (o198 P) (.node (o326 P) (.node (o582 P) (.node (o1094 P) .nil .nil) .nil) (.node (o838 P) .nil .nil)) (.node (o454 P) (.node (o710 P) (.node (o1222 P) .nil .nil) .nil) (.node (o966 P) .nil .nil)))) (.node (o102 P) (.node (o166 P) (.node (o294 P) (.node (o550 P) (.node (o1062 P) .nil .nil) .nil) (.node (o806 P) .nil .nil)) (.node (o422 P) (.node (o678 P) (.node (o1190 P) .nil .nil) .nil) (.node (o934 P) .nil .nil))) (.node (o230 P) (.node (o358 P) (.node (o614 P) (.node (o1126 P) .nil .nil) .nil) (.node (o870 P) .nil .nil)) (.node (o486 P) (.node (o742 P) (.node (o1254 P) .nil .nil) .nil) (.node (o998 P) .nil .nil)))))
def t204_54 (P : Params) : BT := (.node (o54 P) (.node (o86 P) (.node (o150 P) (.node (o278 P) (.node (o534 P) (.node (o1046 P) .nil .nil) .nil) (.node (o790 P) (.node (o1302 P) .nil .nil) .nil)) (.node (o406 P) (.node (o662 P) (.node (o1174 P) .nil .nil) .nil) (.node (o918 P) .nil .nil))) (.node (o214 P) (.node (o342 P) (.node (o598 P) (.node (o1110 P) .nil .nil) .nil) (.node (o854 P) .nil .nil)) (.node (o470 P) (.node (o726 P) (.node (o1238 P) .nil .nil) .nil) (.node (o982 P) .nil .nil)))) (.node (o118 P) (.node (o182 P) (.node (o310 P) (.node (o566 P) (.node (o1078 P) .nil .nil) .nil) (.node (o822 P) .nil .nil)) (.node (o438 P) (.node (o694 P) (.node (o1206 P) .nil .nil) .nil) (.node (o950 P) .nil .nil))) (.node (o246 P) (.node (o374 P) (.node (o630 P) (.node (o1142 P) .nil .nil) .nil) (.node (o886 P) .nil .nil)) (.node (o502 P) (.node (o758 P) (.node (o1270 P) .nil .nil) .nil) (.node (o1014 P) .nil .nil)))))
def t204_46 (P : Params) : BT := (.node (o46 P) (.node (o78 P) (.node (o142 P) (.node (o270 P) (.node (o526 P) (.node (o1038 P) .nil .nil) .nil) (.node (o782 P) (.node (o1294 P) .nil .nil) .nil)) (.node (o398 P) (.node (o654 P) (.node (o1166 P) .nil .nil) .nil) (.node (o910 P) .nil .nil))) (.node (o206 P) (.node (o334 P) (.node (o590 P) (.node (o1102 P) .nil .nil) .nil) (.node (o846 P) .nil .nil)) (.node (o462 P) (.node (o718 P) (.node (o1230 P) .nil .nil) .nil) (.node (o974 P) .nil .nil)))) (.node (o110 P) (.node (o174 P) (.node (o302 P) (.node (o558 P) (.node (o1070 P) .nil .nil) .nil) (.node (o814 P) .nil .nil)) (.node (o430 P) (.node (o686 P) (.node (o1198 P) .nil .nil) .nil) (.node (o942 P) .nil .nil))) (.node (o238 P) (.node (o366 P) (.node (o622 P) (.node (o1134 P) .nil .nil) .nil) (.node (o878 P) .nil .nil)) (.node (o494 P) (.node (o750 P) (.node (o1262 P) .nil .nil) .nil) (.node (o1006 P) .nil .nil)))))
def t204_62 (P : Params) : BT := (.node (o62 P) (.node (o94 P) (.node (o158 P) (.node (o286 P) (.node (o542 P) (.node (o1054 P) .nil .nil) .nil) (.node (o798 P) (.node (o1310 P) .nil .nil) .nil)) (.node (o414 P) (.node (o670 P) (.node (o1182 P) .nil .nil) .nil) (.node (o926 P) .nil .nil))) (.node (o222 P) (.node (o350 P) (.node (o606 P) (.node (o1118 P) .nil .nil) .nil) (.node (o862 P) .nil .nil)) (.node (o478 P) (.node (o734 P) (.node (o1246 P) .nil .nil) .nil) (.node (o990 P) .nil .nil)))) (.node (o126 P) (.node (o190 P) (.node (o318 P) (.node (o574 P) (.node (o1086 P) .nil .nil) .nil) (.node (o830 P) .nil .nil)) (.node (o446 P) (.node (o702 P) (.node (o1214 P) .nil .nil) .nil) (.node (o958 P) .nil .nil))) (.node (o254 P) (.node (o382 P) (.node (o638 P) (.node (o1150 P) .nil .nil) .nil) (.node (o894 P) .nil .nil)) (.node (o510 P) (.node (o766 P) (.node (o1278 P) .nil .nil) .nil) (.node (o1022 P) .nil .nil)))))
def t204 (P : Params) : BT := (.node (o0 P) (.node (o1 P) (.node (o3_5 P) (.node (o7 P) (.node (o15 P) (t204_31 P) (t204_47 P)) (.node (o23 P) (t204_39 P) (t204_55 P))) (.node (o11 P) (.node (o19 P) (t204_35 P) (t204_51 P)) (.node (o27 P) (t204_43 P) (t204_59 P)))) (.node (o5 P) (.node (o9 P) (.node (o17 P) (t204_33 P) (t204_49 P)) (.node (o25 P) (t204_41 P) (t204_57 P))) (.node (o13 P) (.node (o21 P) (t204_37 P) (t204_53 P)) (.node (o29 P) (t204_45 P) (t204_61 P))))) (.node (o2_3 P) (.node (o4 P) (.node (o8 P) (.node (o16 P) (t204_32 P) (t204_48 P)) (.node (o24 P) (t204_40 P) (t204_56 P))) (.node (o12_5 P) (.node (o20 P) (t204_36 P) (t204_52 P)) (.node (o28 P) (t204_44 P) (t204_60 P)))) (.node (o6 P) (.node (o10 P) (.node (o18 P) (t204_34 P) (t204_50 P)) (.node (o26 P) (t204_42 P) (t204_58 P))) (.node (o14 P) (.node (o22 P) (t204_38 P) (t204_54 P)) (.node (o30 P) (t204_46 P) (t204_62 P))))))
def l204 : Life := ⟨[], [], [], 0, [], [], false, ⟨[]⟩, [], 0, false, false, false, 0, [2000, 10, 10], false, 0, true, [], [], 0, false⟩
def S204 (w : World) (os : OsState) : SharedT := ⟨t204 w.params, 1318, l204, ⟨[]⟩, ⟨0, 0, 0, 0⟩, 2156, os⟩
def o3_6 (P : Params) : Obj := ⟨.type "dict", none, (.dict ⟨[⟨hs P "__name__", .str "__name__" 165, .str "law_rulewardens_k72_words_of_commands" 2830⟩, ⟨hs P "__doc__", .str "__doc__" 166, .none⟩, ⟨hs P "__package__", .str "__package__" 167, .none⟩, ⟨hs P "__loader__", .str "__loader__" 168, .builtin "__main__.__loader__#opaque"⟩, ⟨hs P "__spec__", .str "__spec__" 169, .none⟩, ⟨hs P "__annotations__", .str "__annotations__" 170, .ref 6⟩, ⟨hs P "__builtins__", .str "__builtins__" 171, .ref 4⟩, ⟨hs P "__file__", .str "__file__" 173, .str "/claim/cut.py" 172⟩, ⟨hs P "__cached__", .str "__cached__" 174, .none⟩, ⟨hs P "_wall", .str "_wall" 193, .ref 21⟩, ⟨hs P "WardError", .str "WardError" 215, .ref 31⟩, ⟨hs P "BadBook", .str "BadBook" 242, .ref 53⟩, ⟨hs P "BadDevice", .str "BadDevice" 269, .ref 74⟩, ⟨hs P "BadWard", .str "BadWard" 296, .ref 95⟩, ⟨hs P "BadText", .str "BadText" 323, .ref 116⟩, ⟨hs P "TooMany", .str "TooMany" 350, .ref 137⟩, ⟨hs P "BadOnlooker", .str "BadOnlooker" 377, .ref 158⟩, ⟨hs P "OtherFaces", .str "OtherFaces" 393, .ref 170⟩, ⟨hs P "BadName", .str "BadName" 420, .ref 191⟩, ⟨hs P "NameTaken", .str "NameTaken" 447, .ref 212⟩, ⟨hs P "NoWard", .str "NoWard" 474, .ref 233⟩, ⟨hs P "NotHeard", .str "NotHeard" 501, .ref 254⟩, ⟨hs P "NotAlike", .str "NotAlike" 528, .ref 275⟩, ⟨hs P "Harmful", .str "Harmful" 555, .ref 296⟩, ⟨hs P "NothingToUndo", .str "NothingToUndo" 571, .ref 308⟩, ⟨hs P "NothingToRedo", .str "NothingToRedo" 587, .ref 320⟩, ⟨hs P "InvalidCommand", .str "InvalidCommand" 603, .ref 332⟩, ⟨hs P "BLANK_commands", .str "BLANK_commands" 607, .str " " 606⟩, ⟨hs P "BREAK_commands", .str "BREAK_commands" 609, .str "\n" 608⟩, ⟨hs P "SEMICOLON", .str "SEMICOLON" 611, .str ";" 610⟩, ⟨hs P "TEXT_WORDS", .str "TEXT_WORDS" 615, .ref 335⟩, ⟨hs P "LEAST_TEXT_WORDS", .str "LEAST_TEXT_WORDS" 617, .int 3 616⟩, ⟨hs P "WORD_COUNTS", .str "WORD_COUNTS" 672, .ref 336⟩, ⟨hs P "command_words", .str "command_words" 680, .ref 344⟩, ⟨hs P "line_of_text", .str "line_of_text" 687, .ref 351⟩, ⟨hs P "BLANK_booktexts", .str "BLANK_booktexts" 691, .str " " 690⟩, ⟨hs P "BREAK_booktexts", .str "BREAK_booktexts" 693, .str "\n" 692⟩, ⟨hs P "COMMA", .str "COMMA" 695, .str "," 694⟩, ⟨hs P "NONE", .str "NONE" 697, .str "-" 696⟩, ⟨hs P "DIGITS", .str "DIGITS" 699, .str "0123456789" 698⟩, ⟨hs P "LETTERS_booktexts", .str "LETTERS_booktexts" 701, .str "abcdefghijklmnopqrstuvwxyz" 700⟩, ⟨hs P "MOST_DIGITS", .str "MOST_DIGITS" 703, .int 9 702⟩, ⟨hs P "ROOMS_WORD", .str "ROOMS_WORD" 705, .str "rooms" 704⟩, ⟨hs P "FIRST_WORD", .str "FIRST_WORD" 707, .str "first" 706⟩, ⟨hs P "MOVE_WORD", .str "MOVE_WORD" 709, .str "move" 708⟩, ⟨hs P "FACE_WORD", .str "FACE_WORD" 711, .str "face" 710⟩, ⟨hs P "STATE_WORD", .str "STATE_WORD" 713, .str "state" 712⟩, ⟨hs P "STEP_WORD", .str "STEP_WORD" 715, .str "step" 714⟩, ⟨hs P "YES", .str "YES" 717, .str "yes" 716⟩, ⟨hs P "NO", .str "NO" 719, .str "no" 718⟩, ⟨hs P "MOVE_WORDS", .str "MOVE_WORDS" 721, .int 7 720⟩, ⟨hs P "THREE_WORDS", .str "THREE_WORDS" 723, .int 3 722⟩, ⟨hs P "STEP_WORDS", .str "STEP_WORDS" 725, .int 4 724⟩, ⟨hs P "whole_in", .str "whole_in" 731, .ref 356⟩, ⟨hs P "wholes_in", .str "wholes_in" 737, .ref 361⟩, ⟨hs P "list_in", .str "list_in" 744, .ref 368⟩, ⟨hs P "heard_in", .str "heard_in" 750, .ref 373⟩, ⟨hs P "word_of_list", .str "word_of_list" 756, .ref 378⟩, ⟨hs P "word_of_heard", .str "word_of_heard" 763, .ref 385⟩, ⟨hs P "rooms_in", .str "rooms_in" 770, .ref 392⟩, ⟨hs P "first_in", .str "first_in" 777, .ref 399⟩, ⟨hs P "move_in", .str "move_in" 783, .ref 404⟩, ⟨hs P "face_in", .str "face_in" 789, .ref 409⟩, ⟨hs P "state_in", .str "state_in" 796, .ref 416⟩, ⟨hs P "step_in", .str "step_in" 804, .ref 423⟩, ⟨hs P "lines_in", .str "lines_in" 810, .ref 428⟩, ⟨hs P "lines_of_kind", .str "lines_of_kind" 820, .ref 435⟩, ⟨hs P "lines_of_book", .str "lines_of_book" 826, .ref 440⟩, ⟨hs P "lines_of_device", .str "lines_of_device" 832, .ref 445⟩, ⟨hs P "lines_of_faces", .str "lines_of_faces" 838, .ref 450⟩, ⟨hs P "AWAY", .str "AWAY" 843, .int (-1) 842⟩, ⟨hs P "MOST_ROOM", .str "MOST_ROOM" 845, .int 9 844⟩, ⟨hs P "MOST_FACE", .str "MOST_FACE" 847, .int 99 846⟩, ⟨hs P "MOVE_PARTS", .str "MOVE_PARTS" 849, .int 6 848⟩, ⟨hs P "is_integer", .str "is_integer" 856, .ref 457⟩, ⟨hs P "is_between", .str "is_between" 865, .ref 464⟩, ⟨hs P "are_ascending", .str "are_ascending" 871, .ref 469⟩, ⟨hs P "is_heard", .str "is_heard" 877, .ref 474⟩, ⟨hs P "are_rooms", .str "are_rooms" 883, .ref 479⟩, ⟨hs P "is_move", .str "is_move" 889, .ref 484⟩, ⟨hs P "check_moves", .str "check_moves" 899, .ref 491⟩, ⟨hs P "book_lines", .str "book_lines" 913, .ref 498⟩, ⟨hs P "Book", .str "Book" 1002, .ref 551⟩, ⟨hs P "has_somebody", .str "has_somebody" 1008, .ref 560⟩, ⟨hs P "rooms_seen", .str "rooms_seen" 1014, .ref 565⟩, ⟨hs P "is_move_open", .str "is_move_open" 1020, .ref 570⟩, ⟨hs P "open_moves", .str "open_moves" 1026, .ref 575⟩, ⟨hs P "moves_by_origin", .str "moves_by_origin" 1032, .ref 580⟩, ⟨hs P "has_open_move", .str "has_open_move" 1038, .ref 585⟩, ⟨hs P "some_of", .str "some_of" 1044, .ref 590⟩, ⟨hs P "choices", .str "choices" 1050, .ref 595⟩, ⟨hs P "heard_of", .str "heard_of" 1056, .ref 600⟩, ⟨hs P "where_behind", .str "where_behind" 1062, .ref 605⟩, ⟨hs P "outcomes", .str "outcomes" 1071, .ref 612⟩, ⟨hs P "outcomes_found", .str "outcomes_found" 1077, .ref 617⟩, ⟨hs P "PAIR", .str "PAIR" 1081, .int 2 1080⟩, ⟨hs P "STEP_PARTS", .str "STEP_PARTS" 1083, .int 3 1082⟩, ⟨hs P "SILENCE_devices", .str "SILENCE_devices" 1085, .str "" 1084⟩, ⟨hs P "are_faces", .str "are_faces" 1091, .ref 622⟩, ⟨hs P "is_face", .str "is_face" 1097, .ref 627⟩, ⟨hs P "are_shown", .str "are_shown" 1103, .ref 632⟩, ⟨hs P "is_step", .str "is_step" 1114, .ref 639⟩, ⟨hs P "is_later", .str "is_later" 1122, .ref 646⟩, ⟨hs P "are_steps", .str "are_steps" 1128, .ref 651⟩, ⟨hs P "are_others", .str "are_others" 1134, .ref 656⟩, ⟨hs P "device_lines", .str "device_lines" 1140, .ref 661⟩, ⟨hs P "Device", .str "Device" 1225, .ref 714⟩, ⟨hs P "silent_ticks", .str "silent_ticks" 1236, .ref 725⟩, ⟨hs P "first_lot", .str "first_lot" 1245, .ref 732⟩, ⟨hs P "answers", .str "answers" 1251, .ref 737⟩, ⟨hs P "lot_after", .str "lot_after" 1263, .ref 744⟩, ⟨hs P "lots_along", .str "lots_along" 1274, .ref 751⟩, ⟨hs P "lot_behind", .str "lot_behind" 1282, .ref 758⟩, ⟨hs P "cut_heard", .str "cut_heard" 1290, .ref 763⟩, ⟨hs P "answers_by_ears", .str "answers_by_ears" 1296, .ref 768⟩, ⟨hs P "SHUT", .str "SHUT" 1300, .str "shut" 1299⟩, ⟨hs P "BELL", .str "BELL" 1302, .str "bell" 1301⟩, ⟨hs P "OPEN", .str "OPEN" 1304, .str "open" 1303⟩, ⟨hs P "KEPT_wards", .str "KEPT_wards" 1306, .str "kept" 1305⟩, ⟨hs P "HARM", .str "HARM" 1308, .str "harm" 1307⟩, ⟨hs P "faces_told", .str "faces_told" 1320, .ref 775⟩, ⟨hs P "Ward", .str "Ward" 1396, .ref 814⟩, ⟨hs P "first_picture", .str "first_picture" 1403, .ref 825⟩, ⟨hs P "choices_in", .str "choices_in" 1411, .ref 832⟩, ⟨hs P "led_by", .str "led_by" 1423, .ref 839⟩, ⟨hs P "has_harm", .str "has_harm" 1436, .ref 846⟩, ⟨hs P "next_pictures", .str "next_pictures" 1442, .ref 851⟩, ⟨hs P "first_runs", .str "first_runs" 1457, .ref 858⟩, ⟨hs P "judge_ward", .str "judge_ward" 1471, .ref 866⟩, ⟨hs P "SILENCE_plays", .str "SILENCE_plays" 1475, .str "" 1474⟩, ⟨hs P "NO_LOT", .str "NO_LOT" 1476, .ref 867⟩, ⟨hs P "chosen_faces", .str "chosen_faces" 1484, .ref 874⟩, ⟨hs P "is_safe", .str "is_safe" 1490, .ref 879⟩, ⟨hs P "safe_faces", .str "safe_faces" 1497, .ref 885⟩, ⟨hs P "is_waiting", .str "is_waiting" 1503, .ref 890⟩, ⟨hs P "Spot", .str "Spot" 1536, .ref 907⟩, ⟨hs P "Board", .str "Board" 1605, .ref 954⟩, ⟨hs P "KEPT_keepers", .str "KEPT_keepers" 1609, .str "kept" 1608⟩, ⟨hs P "REFUSED_keepers", .str "REFUSED_keepers" 1611, .str "refused" 1610⟩, ⟨hs P "LOST", .str "LOST" 1613, .str "lost" 1612⟩, ⟨hs P "SILENT", .str "SILENT" 1615, .str "silent" 1614⟩, ⟨hs P "lots_played", .str "lots_played" 1629, .ref 965⟩, ⟨hs P "Rounds", .str "Rounds" 1701, .ref 1009⟩, ⟨hs P "lots_led", .str "lots_led" 1713, .ref 1020⟩, ⟨hs P "kept_paper", .str "kept_paper" 1719, .ref 1025⟩, ⟨hs P "judge_keeping", .str "judge_keeping" 1737, .ref 1033⟩, ⟨hs P "can_keep", .str "can_keep" 1753, .ref 1041⟩, ⟨hs P "KEPT_ears", .str "KEPT_ears" 1757, .str "kept" 1756⟩, ⟨hs P "REFUSED_ears", .str "REFUSED_ears" 1759, .str "refused" 1758⟩, ⟨hs P "MOST_LOTS", .str "MOST_LOTS" 1761, .int 60 1760⟩, ⟨hs P "sublists", .str "sublists" 1767, .ref 1046⟩, ⟨hs P "all_ears", .str "all_ears" 1773, .ref 1051⟩, ⟨hs P "is_within_set", .str "is_within_set" 1779, .ref 1056⟩, ⟨hs P "least_among", .str "least_among" 1785, .ref 1061⟩, ⟨hs P "least_ears", .str "least_ears" 1793, .ref 1067⟩, ⟨hs P "BARRED", .str "BARRED" 1797, .str "barred" 1796⟩, ⟨hs P "NO_BAR", .str "NO_BAR" 1799, .str "no bar" 1798⟩, ⟨hs P "GREATEST", .str "GREATEST" 1801, .int 3 1800⟩, ⟨hs P "barred_book", .str "barred_book" 1809, .ref 1074⟩, ⟨hs P "bars_of_size", .str "bars_of_size" 1815, .ref 1079⟩, ⟨hs P "bars_judged", .str "bars_judged" 1828, .ref 1086⟩, ⟨hs P "bars_paper", .str "bars_paper" 1836, .ref 1092⟩, ⟨hs P "first_part", .str "first_part" 1843, .ref 1099⟩, ⟨hs P "fewest_bars", .str "fewest_bars" 1851, .ref 1105⟩, ⟨hs P "shares", .str "shares" 1859, .ref 1110⟩, ⟨hs P "first_crowds", .str "first_crowds" 1865, .ref 1115⟩, ⟨hs P "where_of", .str "where_of" 1871, .ref 1120⟩, ⟨hs P "goings_from", .str "goings_from" 1877, .ref 1125⟩, ⟨hs P "ways_of_pair", .str "ways_of_pair" 1883, .ref 1130⟩, ⟨hs P "is_log", .str "is_log" 1891, .ref 1135⟩, ⟨hs P "states_along", .str "states_along" 1901, .ref 1142⟩, ⟨hs P "state_behind", .str "state_behind" 1909, .ref 1149⟩, ⟨hs P "can_come", .str "can_come" 1917, .ref 1156⟩, ⟨hs P "crowd_ways", .str "crowd_ways" 1933, .ref 1163⟩, ⟨hs P "crowds_along", .str "crowds_along" 1939, .ref 1168⟩, ⟨hs P "crowds_of_log", .str "crowds_of_log" 1948, .ref 1175⟩, ⟨hs P "people_of_log", .str "people_of_log" 1960, .ref 1183⟩, ⟨hs P "is_one_face", .str "is_one_face" 1971, .ref 1190⟩, ⟨hs P "rows_behind", .str "rows_behind" 1977, .ref 1195⟩, ⟨hs P "logs_to_rows", .str "logs_to_rows" 1992, .ref 1202⟩, ⟨hs P "log_beside", .str "log_beside" 2005, .ref 1210⟩, ⟨hs P "check_classes", .str "check_classes" 2015, .ref 1217⟩, ⟨hs P "own_letters", .str "own_letters" 2021, .ref 1222⟩, ⟨hs P "class_shown", .str "class_shown" 2030, .ref 1229⟩, ⟨hs P "sights_behind", .str "sights_behind" 2036, .ref 1234⟩, ⟨hs P "is_lot_empty", .str "is_lot_empty" 2042, .ref 1239⟩, ⟨hs P "is_lot_inhabited", .str "is_lot_inhabited" 2048, .ref 1244⟩, ⟨hs P "EMPTY", .str "EMPTY" 2052, .str "empty" 2051⟩, ⟨hs P "is_known", .str "is_known" 2061, .ref 1251⟩, ⟨hs P "lots_of_pictures", .str "lots_of_pictures" 2076, .ref 1259⟩, ⟨hs P "first_learned", .str "first_learned" 2084, .ref 1265⟩, ⟨hs P "are_classes", .str "are_classes" 2092, .ref 1270⟩, ⟨hs P "put_anew", .str "put_anew" 2098, .ref 1275⟩, ⟨hs P "Onlooker", .str "Onlooker" 2155, .ref 1313⟩, ⟨hs P "is_sure_lot", .str "is_sure_lot" 2163, .ref 1322⟩, ⟨hs P "Outlook", .str "Outlook" 2236, .ref 1373⟩, ⟨hs P "rounds_for", .str "rounds_for" 2250, .ref 1386⟩, ⟨hs P "gap_for", .str "gap_for" 2263, .ref 1395⟩, ⟨hs P "ALL_HARMS", .str "ALL_HARMS" 2266, .ref 1396⟩, ⟨hs P "SURE_HARMS", .str "SURE_HARMS" 2267, .ref 1397⟩, ⟨hs P "LEARNED", .str "LEARNED" 2270, .ref 1398⟩, ⟨hs P "device_read", .str "device_read" 2277, .ref 1405⟩, ⟨hs P "ward_read", .str "ward_read" 2284, .ref 1412⟩, ⟨hs P "are_harms", .str "are_harms" 2290, .ref 1417⟩, ⟨hs P "LETTERS_office", .str "LETTERS_office" 2294, .str "abcdefghijklmnopqrstuvwxyz" 2293⟩, ⟨hs P "MOST_LETTERS", .str "MOST_LETTERS" 2296, .int 8 2295⟩, ⟨hs P "HARMS", .str "HARMS" 2297, .ref 1418⟩, ⟨hs P "is_name", .str "is_name" 2303, .ref 1423⟩, ⟨hs P "harms_kept", .str "harms_kept" 2309, .ref 1428⟩, ⟨hs P "put_through", .str "put_through" 2320, .ref 1435⟩, ⟨hs P "Office", .str "Office" 2507, .ref 1567⟩, ⟨hs P "DONE", .str "DONE" 2511, .str "ok" 2510⟩, ⟨hs P "REFUSED_WORD", .str "REFUSED_WORD" 2513, .str "refused" 2512⟩, ⟨hs P "NEVER_WORD", .str "NEVER_WORD" 2515, .str "never" 2514⟩, ⟨hs P "NONE_WORD", .str "NONE_WORD" 2517, .str "none" 2516⟩, ⟨hs P "MANY_WORD", .str "MANY_WORD" 2519, .str "many" 2518⟩, ⟨hs P "harms_in", .str "harms_in" 2528, .ref 1578⟩, ⟨hs P "letters_in", .str "letters_in" 2536, .ref 1585⟩, ⟨hs P "device_told", .str "device_told" 2542, .ref 1590⟩, ⟨hs P "words_or_none", .str "words_or_none" 2549, .ref 1597⟩, ⟨hs P "number_or_never", .str "number_or_never" 2556, .ref 1604⟩, ⟨hs P "yes_or_no", .str "yes_or_no" 2563, .ref 1611⟩, ⟨hs P "opened", .str "opened" 2575, .ref 1618⟩, ⟨hs P "closed", .str "closed" 2583, .ref 1625⟩, ⟨hs P "renewed", .str "renewed" 2592, .ref 1632⟩, ⟨hs P "replaced_by", .str "replaced_by" 2601, .ref 1639⟩, ⟨hs P "heard_now", .str "heard_now" 2610, .ref 1646⟩, ⟨hs P "undone", .str "undone" 2618, .ref 1653⟩, ⟨hs P "made_again", .str "made_again" 2626, .ref 1660⟩, ⟨hs P "names_told", .str "names_told" 2634, .ref 1667⟩, ⟨hs P "device_line", .str "device_line" 2642, .ref 1674⟩, ⟨hs P "ward_line", .str "ward_line" 2650, .ref 1681⟩, ⟨hs P "face_told", .str "face_told" 2658, .ref 1688⟩, ⟨hs P "log_told", .str "log_told" 2664, .ref 1693⟩, ⟨hs P "lot_told", .str "lot_told" 2670, .ref 1698⟩, ⟨hs P "people_told", .str "people_told" 2679, .ref 1705⟩, ⟨hs P "keeps_told", .str "keeps_told" 2688, .ref 1712⟩, ⟨hs P "can_told", .str "can_told" 2698, .ref 1719⟩, ⟨hs P "rounds_told_of", .str "rounds_told_of" 2708, .ref 1726⟩, ⟨hs P "gap_told_of", .str "gap_told_of" 2718, .ref 1733⟩, ⟨hs P "ears_told_of", .str "ears_told_of" 2724, .ref 1738⟩, ⟨hs P "bars_told", .str "bars_told" 2730, .ref 1743⟩, ⟨hs P "learned_told", .str "learned_told" 2741, .ref 1750⟩, ⟨hs P "ANSWERS", .str "ANSWERS" 2784, .ref 1751⟩, ⟨hs P "Console", .str "Console" 2829, .ref 1784⟩, ⟨hs P "_law_start", .str "_law_start" 2840, .ref 1795⟩, ⟨hs P "_law_draw", .str "_law_draw" 2850, .ref 1802⟩, ⟨hs P "_law_pick", .str "_law_pick" 2858, .ref 1809⟩, ⟨hs P "_law_name", .str "_law_name" 2865, .ref 1816⟩, ⟨hs P "_law_text", .str "_law_text" 2873, .ref 1823⟩, ⟨hs P "_law_line", .str "_law_line" 2883, .ref 1830⟩, ⟨hs P "_law_bent", .str "_law_bent" 2894, .ref 1837⟩, ⟨hs P "_law_due", .str "_law_due" 2905, .ref 1844⟩, ⟨hs P "_law_heard", .str "_law_heard" 2915, .ref 1851⟩, ⟨hs P "_law_said", .str "_law_said" 2923, .ref 1858⟩, ⟨hs P "_law_right", .str "_law_right" 2933, .ref 1865⟩, ⟨hs P "law", .str "law" 2939, .ref 1870⟩]⟩ 257), ⟨[]⟩⟩
def o12_6 (P : Params) : Obj := ⟨.none, none, (.fields ⟨[.int 1 0, .int 0 0, .ref 20, .int 5 0, .int 0 0, .ref 27, .int 7 0, .int 0 0, .ref 41, .int 12 0, .int 0 0, .ref 62, .int 17 0, .int 0 0, .ref 83, .int 22 0, .int 0 0, .ref 104, .int 27 0, .int 0 0, .ref 125, .int 32 0, .int 0 0, .ref 146, .int 37 0, .int 0 0, .ref 166, .int 39 0, .int 0 0, .ref 179, .int 44 0, .int 0 0, .ref 200, .int 49 0, .int 0 0, .ref 221, .int 54 0, .int 0 0, .ref 242, .int 59 0, .int 0 0, .ref 263, .int 64 0, .int 0 0, .ref 284, .int 69 0, .int 0 0, .ref 304, .int 71 0, .int 0 0, .ref 316, .int 73 0, .int 0 0, .ref 328, .int 82 0, .int 0 0, .ref 343, .int 93 0, .int 0 0, .ref 350, .int 114 0, .int 0 0, .ref 355, .int 121 0, .int 0 0, .ref 360, .int 124 0, .int 0 0, .ref 367, .int 126 0, .int 0 0, .ref 372, .int 131 0, .int 0 0, .ref 377, .int 133 0, .int 0 0, .ref 384, .int 135 0, .int 0 0, .ref 391, .int 137 0, .int 0 0, .ref 398, .int 139 0, .int 0 0, .ref 403, .int 144 0, .int 0 0, .ref 408, .int 148 0, .int 0 0, .ref 415, .int 150 0, .int 0 0, .ref 422, .int 155 0, .int 0 0, .ref 427, .int 159 0, .int 0 0, .ref 434, .int 164 0, .int 0 0, .ref 439, .int 171 0, .int 0 0, .ref 444, .int 175 0, .int 0 0, .ref 449, .int 182 0, .int 0 0, .ref 456, .int 184 0, .int 0 0, .ref 463, .int 186 0, .int 0 0, .ref 468, .int 190 0, .int 0 0, .ref 473, .int 194 0, .int 0 0, .ref 478, .int 196 0, .int 0 0, .ref 483, .int 207 0, .int 0 0, .ref 490, .int 213 0, .int 0 0, .ref 497, .int 228 0, .int 0 0, .ref 504, .int 264 0, .int 0 0, .ref 559, .int 266 0, .int 0 0, .ref 564, .int 268 0, .int 0 0, .ref 569, .int 273 0, .int 0 0, .ref 574, .int 279 0, .int 0 0, .ref 579, .int 283 0, .int 0 0, .ref 584, .int 285 0, .int 0 0, .ref 589, .int 290 0, .int 0 0, .ref 594, .int 295 0, .int 0 0, .ref 599, .int 297 0, .int 0 0, .ref 604, .int 300 0, .int 0 0, .ref 611, .int 304 0, .int 0 0, .ref 616, .int 316 0, .int 0 0, .ref 621, .int 320 0, .int 0 0, .ref 626, .int 322 0, .int 0 0, .ref 631, .int 324 0, .int 0 0, .ref 638, .int 329 0, .int 0 0, .ref 645, .int 331 0, .int 0 0, .ref 650, .int 335 0, .int 0 0, .ref 655, .int 337 0, .int 0 0, .ref 660, .int 356 0, .int 0 0, .ref 667, .int 388 0, .int 0 0, .ref 724, .int 396 0, .int 0 0, .ref 731, .int 398 0, .int 0 0, .ref 736, .int 404 0, .int 0 0, .ref 743, .int 409 0, .int 0 0, .ref 750, .int 415 0, .int 0 0, .ref 757, .int 418 0, .int 0 0, .ref 762, .int 420 0, .int 0 0, .ref 767, .int 431 0, .int 0 0, .ref 774, .int 442 0, .int 0 0, .ref 781, .int 469 0, .int 0 0, .ref 824, .int 471 0, .int 0 0, .ref 831, .int 473 0, .int 0 0, .ref 838, .int 477 0, .int 0 0, .ref 845, .int 485 0, .int 0 0, .ref 850, .int 487 0, .int 0 0, .ref 857, .int 502 0, .int 0 0, .ref 865, .int 512 0, .int 0 0, .ref 873, .int 514 0, .int 0 0, .ref 878, .int 519 0, .int 0 0, .ref 884, .int 521 0, .int 0 0, .ref 889, .int 523 0, .int 0 0, .ref 896, .int 531 0, .int 0 0, .ref 917, .int 559 0, .int 0 0, .ref 964, .int 574 0, .int 0 0, .ref 971, .int 626 0, .int 0 0, .ref 1019, .int 636 0, .int 0 0, .ref 1024, .int 649 0, .int 0 0, .ref 1032, .int 655 0, .int 0 0, .ref 1040, .int 661 0, .int 0 0, .ref 1045, .int 666 0, .int 0 0, .ref 1050, .int 669 0, .int 0 0, .ref 1055, .int 671 0, .int 0 0, .ref 1060, .int 673 0, .int 0 0, .ref 1066, .int 680 0, .int 0 0, .ref 1073, .int 682 0, .int 0 0, .ref 1078, .int 684 0, .int 0 0, .ref 1085, .int 689 0, .int 0 0, .ref 1091, .int 698 0, .int 0 0, .ref 1098, .int 700 0, .int 0 0, .ref 1104, .int 704 0, .int 0 0, .ref 1109, .int 711 0, .int 0 0, .ref 1114, .int 720 0, .int 0 0, .ref 1119, .int 722 0, .int 0 0, .ref 1124, .int 734 0, .int 0 0, .ref 1129, .int 748 0, .int 0 0, .ref 1134, .int 750 0, .int 0 0, .ref 1141, .int 755 0, .int 0 0, .ref 1148, .int 757 0, .int 0 0, .ref 1155, .int 760 0, .int 0 0, .ref 1162, .int 766 0, .int 0 0, .ref 1167, .int 775 0, .int 0 0, .ref 1174, .int 777 0, .int 0 0, .ref 1182, .int 783 0, .int 0 0, .ref 1189, .int 785 0, .int 0 0, .ref 1194, .int 789 0, .int 0 0, .ref 1201, .int 801 0, .int 0 0, .ref 1209, .int 807 0, .int 0 0, .ref 1216, .int 810 0, .int 0 0, .ref 1221, .int 812 0, .int 0 0, .ref 1228, .int 814 0, .int 0 0, .ref 1233, .int 822 0, .int 0 0, .ref 1238, .int 824 0, .int 0 0, .ref 1243, .int 828 0, .int 0 0, .ref 1250, .int 830 0, .int 0 0, .ref 1258, .int 842 0, .int 0 0, .ref 1264, .int 860 0, .int 0 0, .ref 1269, .int 864 0, .int 0 0, .ref 1274, .int 869 0, .int 0 0, .ref 1281, .int 891 0, .int 0 0, .ref 1321, .int 893 0, .int 0 0, .ref 1328, .int 953 0, .int 0 0, .ref 1385, .int 956 0, .int 0 0, .ref 1394, .int 962 0, .int 0 0, .ref 1404, .int 967 0, .int 0 0, .ref 1411, .int 972 0, .int 0 0, .ref 1416, .int 980 0, .int 0 0, .ref 1422, .int 984 0, .int 0 0, .ref 1427, .int 986 0, .int 0 0, .ref 1434, .int 989 0, .int 0 0, .ref 1441, .int 1086 0, .int 0 0, .ref 1577, .int 1091 0, .int 0 0, .ref 1584, .int 1096 0, .int 0 0, .ref 1589, .int 1101 0, .int 0 0, .ref 1596, .int 1103 0, .int 0 0, .ref 1603, .int 1105 0, .int 0 0, .ref 1610, .int 1107 0, .int 0 0, .ref 1617, .int 1118 0, .int 0 0, .ref 1624, .int 1121 0, .int 0 0, .ref 1631, .int 1128 0, .int 0 0, .ref 1638, .int 1135 0, .int 0 0, .ref 1645, .int 1142 0, .int 0 0, .ref 1652, .int 1145 0, .int 0 0, .ref 1659, .int 1148 0, .int 0 0, .ref 1666, .int 1150 0, .int 0 0, .ref 1673, .int 1152 0, .int 0 0, .ref 1680, .int 1154 0, .int 0 0, .ref 1687, .int 1156 0, .int 0 0, .ref 1692, .int 1158 0, .int 0 0, .ref 1697, .int 1160 0, .int 0 0, .ref 1704, .int 1163 0, .int 0 0, .ref 1711, .int 1166 0, .int 0 0, .ref 1718, .int 1169 0, .int 0 0, .ref 1725, .int 1172 0, .int 0 0, .ref 1732, .int 1175 0, .int 0 0, .ref 1737, .int 1178 0, .int 0 0, .ref 1742, .int 1181 0, .int 0 0, .ref 1749, .int 1188 0, .int 0 0, .ref 1758, .int 1203 0, .int 0 0, .ref 1794, .int 1208 0, .int 0 0, .ref 1801, .int 1220 0, .int 0 0, .ref 1808, .int 1222 0, .int 0 0, .ref 1815, .int 1224 0, .int 0 0, .ref 1822, .int 1227 0, .int 0 0, .ref 1829, .int 1242 0, .int 0 0, .ref 1836, .int 1260 0, .int 0 0, .ref 1843, .int 1277 0, .int 0 0, .ref 1850, .int 1284 0, .int 0 0, .ref 1857, .int 1293 0, .int 0 0, .ref 1864, .int 1299 0, .int 0 0, .ref 1869]⟩), ⟨[]⟩⟩
def o1318 (P : Params) : Obj := ⟨.type "tuple", none, (.seq ⟨[]⟩ 0), ⟨[]⟩⟩
def o1319 (P : Params) : Obj := ⟨.none, none, (.fields ⟨[]⟩), ⟨[]⟩⟩
def o1320 (P : Params) : Obj := ⟨.none, none, (.func ⟨"is_sure_lot", "is_sure_lot", dArgs (top 205), .stmts (dBody (top 205)), dScope (top 205), 0, [], .none, .none, .none, .none, none, .none, .none, 0⟩), ⟨[]⟩⟩
def o1321 (P : Params) : Obj := ⟨.type "code", none, (.fields ⟨[.str "is_sure_lot" 2158, .str "is_sure_lot" 2159, .str "/claim/cut.py" 2160, .int 891 0, .int 2 0, .int 0 0, .int 0 0, .int 3 0, .ref 1318, .bool true, .int 181 0, .ref 1319, .none, .none, .none, .ref 1320, .int 2161 0, .int 891 0, .str "/claim/cut.py" 2162]⟩), ⟨[]⟩⟩
def o1322 (P : Params) : Obj := ⟨.type "function", none, (.func ⟨"is_sure_lot", "is_sure_lot", dArgs (top 205), .stmts (dBody (top 205)), dScope (top 205), 3, [], .none, .none, .none, .str "rulewardens.surely" 2156, none, .ref 1321, .none, 0⟩), ⟨[]⟩⟩
def o1323 (P : Params) : Obj := ⟨.type "tuple", none, (.seq ⟨[]⟩ 0), ⟨[]⟩⟩
def o1324 (P : Params) : Obj := ⟨.type "builtin_function_or_method", none, (.fields ⟨[.builtin "type.__prepare__", .type "type"]⟩), ⟨[]⟩⟩
def o1325 (P : Params) : Obj := ⟨.type "dict", none, (.dict ⟨[⟨hs P "__module__", .str "__module__" 2171, .str "rulewardens.surely" 2156⟩, ⟨hs P "__qualname__", .str "__qualname__" 2173, .str "Outlook" 2172⟩, ⟨hs P "__firstlineno__", .str "__firstlineno__" 2175, .int 893 2174⟩, ⟨hs P "__init__", .str "__init__" 2181, .ref 1334⟩, ⟨hs P "face_within", .str "face_within" 2187, .ref 1339⟩, ⟨hs P "numbers_to", .str "numbers_to" 2193, .ref 1344⟩, ⟨hs P "rounds_told", .str "rounds_told" 2200, .ref 1351⟩, ⟨hs P "never_lots", .str "never_lots" 2208, .ref 1358⟩, ⟨hs P "numbers_kept", .str "numbers_kept" 2214, .ref 1363⟩, ⟨hs P "gap_told", .str "gap_told" 2223, .ref 1370⟩, ⟨hs P "__static_attributes__", .str "__static_attributes__" 2229, .ref 1371⟩]⟩ 11), ⟨[]⟩⟩
def o1326 (P : Params) : Obj := ⟨.type "tuple", none, (.seq ⟨[]⟩ 0), ⟨[]⟩⟩
def o1327 (P : Params) : Obj := ⟨.none, none, (.fields ⟨[.int 895 0, .int 4 0, .ref 1333, .int 914 0, .int 4 0, .ref 1338, .int 920 0, .int 4 0, .ref 1343, .int 932 0, .int 4 0, .ref 1350, .int 935 0, .int 4 0, .ref 1357, .int 938 0, .int 4 0, .ref 1362, .int 947 0, .int 4 0, .ref 1369]⟩), ⟨[]⟩⟩
def o1328 (P : Params) : Obj := ⟨.type "code", none, (.fields ⟨[.str "Outlook" 2166, .str "Outlook" 2167, .str "/claim/cut.py" 2168, .int 893 0, .int 0 0, .int 0 0, .int 0 0, .int 0 0, .ref 1326, .bool false, .int 181 0, .ref 1327, .none, .none, .none, .none, .int 2169 0, .int 893 0, .str "/claim/cut.py" 2170]⟩), ⟨[]⟩⟩
def o1329 (P : Params) : Obj := ⟨.type "frame", none, .plain, ⟨[(some (.ref 1328)), (some (.ref 3)), (some (.ref 1325)), none, (some (.str "rulewardens.surely" 2156)), none, (some (.ref 0))]⟩⟩
def o1330 (P : Params) : Obj := ⟨.type "tuple", none, (.seq ⟨[]⟩ 0), ⟨[]⟩⟩
def o1331 (P : Params) : Obj := ⟨.none, none, (.fields ⟨[]⟩), ⟨[]⟩⟩
def o1332 (P : Params) : Obj := ⟨.none, none, (.func ⟨"__init__", "Outlook.__init__", dArgs (inC (top 206) 0), .stmts (dBody (inC (top 206) 0)), dScope (inC (top 206) 0), 0, [], .none, .none, .none, .none, none, .none, .none, 0⟩), ⟨[]⟩⟩
def o1333 (P : Params) : Obj := ⟨.type "code", none, (.fields ⟨[.str "__init__" 2176, .str "Outlook.__init__" 2177, .str "/claim/cut.py" 2178, .int 895 0, .int 5 0, .int 0 0, .int 0 0, .int 3 0, .ref 1330, .bool true, .int 181 0, .ref 1331, .none, .none, .none, .ref 1332, .int 2179 0, .int 895 0, .str "/claim/cut.py" 2180]⟩), ⟨[]⟩⟩
def o1334 (P : Params) : Obj := ⟨.type "function", none, (.func ⟨"__init__", "Outlook.__init__", dArgs (inC (top 206) 0), .stmts (dBody (inC (top 206) 0)), dScope (inC (top 206) 0), 3, [], .none, .none, .none, .str "rulewardens.surely" 2156, none, .ref 1333, .none, 0⟩), ⟨[]⟩⟩
def o1335 (P : Params) : Obj := ⟨.type "tuple", none, (.seq ⟨[]⟩ 0), ⟨[]⟩⟩
def o1336 (P : Params) : Obj := ⟨.none, none, (.fields ⟨[]⟩), ⟨[]⟩⟩
def o1337 (P : Params) : Obj := ⟨.none, none, (.func ⟨"face_within", "Outlook.face_within", dArgs (inC (top 206) 1), .stmts (dBody (inC (top 206) 1)), dScope (inC (top 206) 1), 0, [], .none, .none, .none, .none, none, .none, .none, 0⟩), ⟨[]⟩⟩
def o1338 (P : Params) : Obj := ⟨.type "code", none, (.fields ⟨[.str "face_within" 2182, .str "Outlook.face_within" 2183, .str "/claim/cut.py" 2184, .int 914 0, .int 4 0, .int 0 0, .int 0 0, .int 3 0, .ref 1335, .bool true, .int 181 0, .ref 1336, .none, .none, .none, .ref 1337, .int 2185 0, .int 914 0, .str "/claim/cut.py" 2186]⟩), ⟨[]⟩⟩
def o1339 (P : Params) : Obj := ⟨.type "function", none, (.func ⟨"face_within", "Outlook.face_within", dArgs (inC (top 206) 1), .stmts (dBody (inC (top 206) 1)), dScope (inC (top 206) 1), 3, [], .none, .none, .none, .str "rulewardens.surely" 2156, none, .ref 1338, .none, 0⟩), ⟨[]⟩⟩
def o1340 (P : Params) : Obj := ⟨.type "tuple", none, (.seq ⟨[]⟩ 0), ⟨[]⟩⟩
def o1341 (P : Params) : Obj := ⟨.none, none, (.fields ⟨[]⟩), ⟨[]⟩⟩
def o1342 (P : Params) : Obj := ⟨.none, none, (.func ⟨"numbers_to", "Outlook.numbers_to", dArgs (inC (top 206) 2), .stmts (dBody (inC (top 206) 2)), dScope (inC (top 206) 2), 0, [], .none, .none, .none, .none, none, .none, .none, 0⟩), ⟨[]⟩⟩
def o1343 (P : Params) : Obj := ⟨.type "code", none, (.fields ⟨[.str "numbers_to" 2188, .str "Outlook.numbers_to" 2189, .str "/claim/cut.py" 2190, .int 920 0, .int 3 0, .int 0 0, .int 0 0, .int 3 0, .ref 1340, .bool true, .int 181 0, .ref 1341, .none, .none, .none, .ref 1342, .int 2191 0, .int 920 0, .str "/claim/cut.py" 2192]⟩), ⟨[]⟩⟩
def o1344 (P : Params) : Obj := ⟨.type "function", none, (.func ⟨"numbers_to", "Outlook.numbers_to", dArgs (inC (top 206) 2), .stmts (dBody (inC (top 206) 2)), dScope (inC (top 206) 2), 3, [], .none, .none, .none, .str "rulewardens.surely" 2156, none, .ref 1343, .none, 0⟩), ⟨[]⟩⟩
def o1345 (P : Params) : Obj := ⟨.type "tuple", none, (.seq ⟨[]⟩ 0), ⟨[]⟩⟩
def o1346 (P : Params) : Obj := ⟨.none, none, (.fields ⟨[]⟩), ⟨[]⟩⟩
def o1347 (P : Params) : Obj := ⟨.type "tuple", none, (.seq ⟨[.str "self" 2197]⟩ 0), ⟨[]⟩⟩
def o1348 (P : Params) : Obj := ⟨.type "tuple", none, (.seq ⟨[]⟩ 0), ⟨[]⟩⟩
def o1349 (P : Params) : Obj := ⟨.none, none, (.func ⟨"rounds_told", "Outlook.rounds_told", dArgs (inC (top 206) 3), .stmts (dBody (inC (top 206) 3)), dScope (inC (top 206) 3), 0, [], .none, .none, .none, .none, none, .none, .none, 0⟩), ⟨[]⟩⟩
def o1350 (P : Params) : Obj := ⟨.type "code", none, (.fields ⟨[.str "rounds_told" 2194, .str "Outlook.rounds_told" 2195, .str "/claim/cut.py" 2196, .int 932 0, .int 1 0, .int 0 0, .int 0 0, .int 3 0, .ref 1345, .bool true, .int 181 0, .ref 1346, .none, .ref 1347, .ref 1348, .ref 1349, .int 2198 0, .int 932 0, .str "/claim/cut.py" 2199]⟩), ⟨[]⟩⟩
def o1351 (P : Params) : Obj := ⟨.type "function", none, (.func ⟨"rounds_told", "Outlook.rounds_told", dArgs (inC (top 206) 3), .stmts (dBody (inC (top 206) 3)), dScope (inC (top 206) 3), 3, [], .none, .none, .none, .str "rulewardens.surely" 2156, none, .ref 1350, .none, 0⟩), ⟨[]⟩⟩
def o1352 (P : Params) : Obj := ⟨.type "tuple", none, (.seq ⟨[]⟩ 0), ⟨[]⟩⟩
def o1353 (P : Params) : Obj := ⟨.none, none, (.fields ⟨[]⟩), ⟨[]⟩⟩
def o1354 (P : Params) : Obj := ⟨.type "tuple", none, (.seq ⟨[.str "self" 2204, .str "numbers" 2205]⟩ 0), ⟨[]⟩⟩
def o1355 (P : Params) : Obj := ⟨.type "tuple", none, (.seq ⟨[]⟩ 0), ⟨[]⟩⟩
def o1356 (P : Params) : Obj := ⟨.none, none, (.func ⟨"never_lots", "Outlook.never_lots", dArgs (inC (top 206) 4), .stmts (dBody (inC (top 206) 4)), dScope (inC (top 206) 4), 0, [], .none, .none, .none, .none, none, .none, .none, 0⟩), ⟨[]⟩⟩
def o1357 (P : Params) : Obj := ⟨.type "code", none, (.fields ⟨[.str "never_lots" 2201, .str "Outlook.never_lots" 2202, .str "/claim/cut.py" 2203, .int 935 0, .int 2 0, .int 0 0, .int 0 0, .int 3 0, .ref 1352, .bool true, .int 181 0, .ref 1353, .none, .ref 1354, .ref 1355, .ref 1356, .int 2206 0, .int 935 0, .str "/claim/cut.py" 2207]⟩), ⟨[]⟩⟩
def o1358 (P : Params) : Obj := ⟨.type "function", none, (.func ⟨"never_lots", "Outlook.never_lots", dArgs (inC (top 206) 4), .stmts (dBody (inC (top 206) 4)), dScope (inC (top 206) 4), 3, [], .none, .none, .none, .str "rulewardens.surely" 2156, none, .ref 1357, .none, 0⟩), ⟨[]⟩⟩
def o1359 (P : Params) : Obj := ⟨.type "tuple", none, (.seq ⟨[]⟩ 0), ⟨[]⟩⟩
def o1360 (P : Params) : Obj := ⟨.none, none, (.fields ⟨[]⟩), ⟨[]⟩⟩
def o1361 (P : Params) : Obj := ⟨.none, none, (.func ⟨"numbers_kept", "Outlook.numbers_kept", dArgs (inC (top 206) 5), .stmts (dBody (inC (top 206) 5)), dScope (inC (top 206) 5), 0, [], .none, .none, .none, .none, none, .none, .none, 0⟩), ⟨[]⟩⟩
def o1362 (P : Params) : Obj := ⟨.type "code", none, (.fields ⟨[.str "numbers_kept" 2209, .str "Outlook.numbers_kept" 2210, .str "/claim/cut.py" 2211, .int 938 0, .int 2 0, .int 0 0, .int 0 0, .int 3 0, .ref 1359, .bool true, .int 181 0, .ref 1360, .none, .none, .none, .ref 1361, .int 2212 0, .int 938 0, .str "/claim/cut.py" 2213]⟩), ⟨[]⟩⟩
def o1363 (P : Params) : Obj := ⟨.type "function", none, (.func ⟨"numbers_kept", "Outlook.numbers_kept", dArgs (inC (top 206) 5), .stmts (dBody (inC (top 206) 5)), dScope (inC (top 206) 5), 3, [], .none, .none, .none, .str "rulewardens.surely" 2156, none, .ref 1362, .none, 0⟩), ⟨[]⟩⟩
def o1364 (P : Params) : Obj := ⟨.type "tuple", none, (.seq ⟨[]⟩ 0), ⟨[]⟩⟩
def o1365 (P : Params) : Obj := ⟨.none, none, (.fields ⟨[]⟩), ⟨[]⟩⟩
def o1366 (P : Params) : Obj := ⟨.type "tuple", none, (.seq ⟨[.str "self" 2218, .str "gap" 2219, .str "found" 2220]⟩ 0), ⟨[]⟩⟩
def o1367 (P : Params) : Obj := ⟨.type "tuple", none, (.seq ⟨[]⟩ 0), ⟨[]⟩⟩
def o1368 (P : Params) : Obj := ⟨.none, none, (.func ⟨"gap_told", "Outlook.gap_told", dArgs (inC (top 206) 6), .stmts (dBody (inC (top 206) 6)), dScope (inC (top 206) 6), 0, [], .none, .none, .none, .none, none, .none, .none, 0⟩), ⟨[]⟩⟩
def o1369 (P : Params) : Obj := ⟨.type "code", none, (.fields ⟨[.str "gap_told" 2215, .str "Outlook.gap_told" 2216, .str "/claim/cut.py" 2217, .int 947 0, .int 1 0, .int 0 0, .int 0 0, .int 3 0, .ref 1364, .bool true, .int 181 0, .ref 1365, .none, .ref 1366, .ref 1367, .ref 1368, .int 2221 0, .int 947 0, .str "/claim/cut.py" 2222]⟩), ⟨[]⟩⟩
def o1370 (P : Params) : Obj := ⟨.type "function", none, (.func ⟨"gap_told", "Outlook.gap_told", dArgs (inC (top 206) 6), .stmts (dBody (inC (top 206) 6)), dScope (inC (top 206) 6), 3, [], .none, .none, .none, .str "rulewardens.surely" 2156, none, .ref 1369, .none, 0⟩), ⟨[]⟩⟩
def o1371 (P : Params) : Obj := ⟨.type "tuple", none, (.seq ⟨[.str "book_told" 2224, .str "first_met" 2225, .str "later_lots" 2226, .str "safe_by_lot" 2227, .str "sure_lots" 2228]⟩ 0), ⟨[]⟩⟩
def o1372 (P : Params) : Obj := ⟨.type "dict", none, (.dict ⟨[⟨hs P "__module__", .str "__module__" 2171, .str "rulewardens.surely" 2156⟩, ⟨hs P "__firstlineno__", .str "__firstlineno__" 2175, .int 893 2174⟩, ⟨hs P "__init__", .str "__init__" 2181, .ref 1334⟩, ⟨hs P "face_within", .str "face_within" 2187, .ref 1339⟩, ⟨hs P "numbers_to", .str "numbers_to" 2193, .ref 1344⟩, ⟨hs P "rounds_told", .str "rounds_told" 2200, .ref 1351⟩, ⟨hs P "never_lots", .str "never_lots" 2208, .ref 1358⟩, ⟨hs P "numbers_kept", .str "numbers_kept" 2214, .ref 1363⟩, ⟨hs P "gap_told", .str "gap_told" 2223, .ref 1370⟩, ⟨hs P "__static_attributes__", .str "__static_attributes__" 2229, .ref 1371⟩, ⟨hs P "__dict__", .str "__dict__" 2231, .ref 1374⟩, ⟨hs P "__weakref__", .str "__weakref__" 2233, .ref 1375⟩, ⟨hs P "__doc__", .str "__doc__" 2234, .none⟩]⟩ 4), ⟨[]⟩⟩
def o1373 (P : Params) : Obj := ⟨.type "type", none, (.cls ⟨"Outlook", [.type "object"], [.ref 1373, .type "object"], 1372, "Outlook", true, [], [], false, none, false⟩), ⟨[none, none, (some (.str "Outlook" 2164)), (some (.str "Outlook" 2172)), (some (.builtin "object.__new__")), (some (.bool true))]⟩⟩
def o1374 (P : Params) : Obj := ⟨.type "getset_descriptor", none, (.fields ⟨[.str "__dict__" 2230, .ref 1373, .builtin "function.__dict__", .builtin "function.__dict__#set"]⟩), ⟨[]⟩⟩
def o1375 (P : Params) : Obj := ⟨.type "getset_descriptor", none, (.fields ⟨[.str "__weakref__" 2232, .ref 1373, .builtin "ExceptionGroup.__weakref__", .none]⟩), ⟨[]⟩⟩
def o1376 (P : Params) : Obj := ⟨.type "super", none, (.fields ⟨[.ref 1373, .ref 1373, .ref 1373]⟩), ⟨[]⟩⟩
def o1377 (P : Params) : Obj := ⟨.type "builtin_function_or_method", none, (.fields ⟨[.builtin "object.__init_subclass__", .ref 1373]⟩), ⟨[]⟩⟩
def o1378 (P : Params) : Obj := ⟨.type "tuple", none, (.seq ⟨[]⟩ 0), ⟨[]⟩⟩
def o1379 (P : Params) : Obj := ⟨.type "dict", none, (.dict ⟨[⟨hs P "harms", .str "harms" 2238, .ref 1378⟩, ⟨hs P "most", .str "most" 2239, .int 60 2237⟩]⟩ 2), ⟨[]⟩⟩
def o1380 (P : Params) : Obj := ⟨.type "tuple", none, (.seq ⟨[]⟩ 0), ⟨[]⟩⟩
def o1381 (P : Params) : Obj := ⟨.none, none, (.fields ⟨[]⟩), ⟨[]⟩⟩
def o1382 (P : Params) : Obj := ⟨.type "tuple", none, (.seq ⟨[.str "book" 2243, .str "faces" 2244, .str "harms" 2245, .str "most" 2246, .str "outlook" 2247]⟩ 0), ⟨[]⟩⟩
def o1383 (P : Params) : Obj := ⟨.type "tuple", none, (.seq ⟨[]⟩ 0), ⟨[]⟩⟩
def o1384 (P : Params) : Obj := ⟨.none, none, (.func ⟨"rounds_for", "rounds_for", dArgs (top 207), .stmts (dBody (top 207)), dScope (top 207), 0, [], .none, .none, .none, .none, none, .none, .none, 0⟩), ⟨[]⟩⟩
def o1385 (P : Params) : Obj := ⟨.type "code", none, (.fields ⟨[.str "rounds_for" 2240, .str "rounds_for" 2241, .str "/claim/cut.py" 2242, .int 953 0, .int 2 0, .int 0 0, .int 2 0, .int 3 0, .ref 1380, .bool true, .int 181 0, .ref 1381, .none, .ref 1382, .ref 1383, .ref 1384, .int 2248 0, .int 953 0, .str "/claim/cut.py" 2249]⟩), ⟨[]⟩⟩
def o1386 (P : Params) : Obj := ⟨.type "function", none, (.func ⟨"rounds_for", "rounds_for", dArgs (top 207), .stmts (dBody (top 207)), dScope (top 207), 3, [], .none, .ref 1379, .none, .str "rulewardens.surely" 2156, none, .ref 1385, .none, 0⟩), ⟨[]⟩⟩
def o1387 (P : Params) : Obj := ⟨.type "tuple", none, (.seq ⟨[]⟩ 0), ⟨[]⟩⟩
def o1388 (P : Params) : Obj := ⟨.type "dict", none, (.dict ⟨[⟨hs P "harms", .str "harms" 2252, .ref 1387⟩, ⟨hs P "most", .str "most" 2253, .int 60 2251⟩]⟩ 2), ⟨[]⟩⟩
def o1389 (P : Params) : Obj := ⟨.type "tuple", none, (.seq ⟨[]⟩ 0), ⟨[]⟩⟩
def o1390 (P : Params) : Obj := ⟨.none, none, (.fields ⟨[]⟩), ⟨[]⟩⟩
def o1391 (P : Params) : Obj := ⟨.type "tuple", none, (.seq ⟨[.str "book" 2257, .str "faces" 2258, .str "harms" 2259, .str "most" 2260]⟩ 0), ⟨[]⟩⟩
def o1392 (P : Params) : Obj := ⟨.type "tuple", none, (.seq ⟨[]⟩ 0), ⟨[]⟩⟩
def o1393 (P : Params) : Obj := ⟨.none, none, (.func ⟨"gap_for", "gap_for", dArgs (top 208), .stmts (dBody (top 208)), dScope (top 208), 0, [], .none, .none, .none, .none, none, .none, .none, 0⟩), ⟨[]⟩⟩
def o1394 (P : Params) : Obj := ⟨.type "code", none, (.fields ⟨[.str "gap_for" 2254, .str "gap_for" 2255, .str "/claim/cut.py" 2256, .int 956 0, .int 2 0, .int 0 0, .int 2 0, .int 3 0, .ref 1389, .bool true, .int 181 0, .ref 1390, .none, .ref 1391, .ref 1392, .ref 1393, .int 2261 0, .int 956 0, .str "/claim/cut.py" 2262]⟩), ⟨[]⟩⟩
def o1395 (P : Params) : Obj := ⟨.type "function", none, (.func ⟨"gap_for", "gap_for", dArgs (top 208), .stmts (dBody (top 208)), dScope (top 208), 3, [], .none, .ref 1388, .none, .str "rulewardens.surely" 2156, none, .ref 1394, .none, 0⟩), ⟨[]⟩⟩
def o1396 (P : Params) : Obj := ⟨.type "tuple", none, (.seq ⟨[.str "bell" 1301, .str "open" 1303, .str "shut" 1299]⟩ 0), ⟨[]⟩⟩
def o1397 (P : Params) : Obj := ⟨.type "tuple", none, (.seq ⟨[.str "bell" 1301, .str "shut" 1299]⟩ 0), ⟨[]⟩⟩
def o1398 (P : Params) : Obj := ⟨.type "tuple", none, (.seq ⟨[.str "empty" 2268, .str "somebody" 2269]⟩ 0), ⟨[]⟩⟩
def o1399 (P : Params) : Obj := ⟨.type "tuple", none, (.seq ⟨[]⟩ 0), ⟨[]⟩⟩
def o1400 (P : Params) : Obj := ⟨.none, none, (.fields ⟨[]⟩), ⟨[]⟩⟩
def o1401 (P : Params) : Obj := ⟨.type "tuple", none, (.seq ⟨[.str "text" 2274]⟩ 0), ⟨[]⟩⟩
def o1402 (P : Params) : Obj := ⟨.type "tuple", none, (.seq ⟨[]⟩ 0), ⟨[]⟩⟩
def o1403 (P : Params) : Obj := ⟨.none, none, (.func ⟨"device_read", "device_read", dArgs (top 213), .stmts (dBody (top 213)), dScope (top 213), 0, [], .none, .none, .none, .none, none, .none, .none, 0⟩), ⟨[]⟩⟩
def o1404 (P : Params) : Obj := ⟨.type "code", none, (.fields ⟨[.str "device_read" 2271, .str "device_read" 2272, .str "/claim/cut.py" 2273, .int 962 0, .int 1 0, .int 0 0, .int 0 0, .int 3 0, .ref 1399, .bool true, .int 181 0, .ref 1400, .none, .ref 1401, .ref 1402, .ref 1403, .int 2275 0, .int 962 0, .str "/claim/cut.py" 2276]⟩), ⟨[]⟩⟩
def o1405 (P : Params) : Obj := ⟨.type "function", none, (.func ⟨"device_read", "device_read", dArgs (top 213), .stmts (dBody (top 213)), dScope (top 213), 3, [], .none, .none, .none, .str "rulewardens.findings" 2264, none, .ref 1404, .none, 0⟩), ⟨[]⟩⟩
def o1406 (P : Params) : Obj := ⟨.type "tuple", none, (.seq ⟨[]⟩ 0), ⟨[]⟩⟩
def o1407 (P : Params) : Obj := ⟨.none, none, (.fields ⟨[]⟩), ⟨[]⟩⟩
def o1408 (P : Params) : Obj := ⟨.type "tuple", none, (.seq ⟨[.str "text" 2281]⟩ 0), ⟨[]⟩⟩
def o1409 (P : Params) : Obj := ⟨.type "tuple", none, (.seq ⟨[]⟩ 0), ⟨[]⟩⟩
def o1410 (P : Params) : Obj := ⟨.none, none, (.func ⟨"ward_read", "ward_read", dArgs (top 214), .stmts (dBody (top 214)), dScope (top 214), 0, [], .none, .none, .none, .none, none, .none, .none, 0⟩), ⟨[]⟩⟩
def o1411 (P : Params) : Obj := ⟨.type "code", none, (.fields ⟨[.str "ward_read" 2278, .str "ward_read" 2279, .str "/claim/cut.py" 2280, .int 967 0, .int 1 0, .int 0 0, .int 0 0, .int 3 0, .ref 1406, .bool true, .int 181 0, .ref 1407, .none, .ref 1408, .ref 1409, .ref 1410, .int 2282 0, .int 967 0, .str "/claim/cut.py" 2283]⟩), ⟨[]⟩⟩
def o1412 (P : Params) : Obj := ⟨.type "function", none, (.func ⟨"ward_read", "ward_read", dArgs (top 214), .stmts (dBody (top 214)), dScope (top 214), 3, [], .none, .none, .none, .str "rulewardens.findings" 2264, none, .ref 1411, .none, 0⟩), ⟨[]⟩⟩
def o1413 (P : Params) : Obj := ⟨.type "tuple", none, (.seq ⟨[]⟩ 0), ⟨[]⟩⟩
def o1414 (P : Params) : Obj := ⟨.none, none, (.fields ⟨[]⟩), ⟨[]⟩⟩
def o1415 (P : Params) : Obj := ⟨.none, none, (.func ⟨"are_harms", "are_harms", dArgs (top 215), .stmts (dBody (top 215)), dScope (top 215), 0, [], .none, .none, .none, .none, none, .none, .none, 0⟩), ⟨[]⟩⟩
def o1416 (P : Params) : Obj := ⟨.type "code", none, (.fields ⟨[.str "are_harms" 2285, .str "are_harms" 2286, .str "/claim/cut.py" 2287, .int 972 0, .int 2 0, .int 0 0, .int 0 0, .int 3 0, .ref 1413, .bool true, .int 181 0, .ref 1414, .none, .none, .none, .ref 1415, .int 2288 0, .int 972 0, .str "/claim/cut.py" 2289]⟩), ⟨[]⟩⟩
def o1417 (P : Params) : Obj := ⟨.type "function", none, (.func ⟨"are_harms", "are_harms", dArgs (top 215), .stmts (dBody (top 215)), dScope (top 215), 3, [], .none, .none, .none, .str "rulewardens.findings" 2264, none, .ref 1416, .none, 0⟩), ⟨[]⟩⟩
def o1418 (P : Params) : Obj := ⟨.type "tuple", none, (.seq ⟨[.str "bell" 1301, .str "open" 1303, .str "shut" 1299]⟩ 0), ⟨[]⟩⟩
def o1419 (P : Params) : Obj := ⟨.type "tuple", none, (.seq ⟨[]⟩ 0), ⟨[]⟩⟩
def o1420 (P : Params) : Obj := ⟨.none, none, (.fields ⟨[]⟩), ⟨[]⟩⟩
def o1421 (P : Params) : Obj := ⟨.none, none, (.func ⟨"is_name", "is_name", dArgs (top 220), .stmts (dBody (top 220)), dScope (top 220), 0, [], .none, .none, .none, .none, none, .none, .none, 0⟩), ⟨[]⟩⟩
def o1422 (P : Params) : Obj := ⟨.type "code", none, (.fields ⟨[.str "is_name" 2298, .str "is_name" 2299, .str "/claim/cut.py" 2300, .int 980 0, .int 1 0, .int 0 0, .int 0 0, .int 3 0, .ref 1419, .bool true, .int 181 0, .ref 1420, .none, .none, .none, .ref 1421, .int 2301 0, .int 980 0, .str "/claim/cut.py" 2302]⟩), ⟨[]⟩⟩
def o1423 (P : Params) : Obj := ⟨.type "function", none, (.func ⟨"is_name", "is_name", dArgs (top 220), .stmts (dBody (top 220)), dScope (top 220), 3, [], .none, .none, .none, .str "rulewardens.office" 2291, none, .ref 1422, .none, 0⟩), ⟨[]⟩⟩
def o1424 (P : Params) : Obj := ⟨.type "tuple", none, (.seq ⟨[]⟩ 0), ⟨[]⟩⟩
def o1425 (P : Params) : Obj := ⟨.none, none, (.fields ⟨[]⟩), ⟨[]⟩⟩
def o1426 (P : Params) : Obj := ⟨.none, none, (.func ⟨"harms_kept", "harms_kept", dArgs (top 221), .stmts (dBody (top 221)), dScope (top 221), 0, [], .none, .none, .none, .none, none, .none, .none, 0⟩), ⟨[]⟩⟩
def o1427 (P : Params) : Obj := ⟨.type "code", none, (.fields ⟨[.str "harms_kept" 2304, .str "harms_kept" 2305, .str "/claim/cut.py" 2306, .int 984 0, .int 3 0, .int 0 0, .int 0 0, .int 3 0, .ref 1424, .bool true, .int 181 0, .ref 1425, .none, .none, .none, .ref 1426, .int 2307 0, .int 984 0, .str "/claim/cut.py" 2308]⟩), ⟨[]⟩⟩
def o1428 (P : Params) : Obj := ⟨.type "function", none, (.func ⟨"harms_kept", "harms_kept", dArgs (top 221), .stmts (dBody (top 221)), dScope (top 221), 3, [], .none, .none, .none, .str "rulewardens.office" 2291, none, .ref 1427, .none, 0⟩), ⟨[]⟩⟩
def o1429 (P : Params) : Obj := ⟨.type "tuple", none, (.seq ⟨[]⟩ 0), ⟨[]⟩⟩
def o1430 (P : Params) : Obj := ⟨.none, none, (.fields ⟨[]⟩), ⟨[]⟩⟩
def o1431 (P : Params) : Obj := ⟨.type "tuple", none, (.seq ⟨[.str "present" 2313, .str "device" 2314, .str "some" 2315, .str "most" 2316, .str "ward" 2317]⟩ 0), ⟨[]⟩⟩
def o1432 (P : Params) : Obj := ⟨.type "tuple", none, (.seq ⟨[]⟩ 0), ⟨[]⟩⟩
def o1433 (P : Params) : Obj := ⟨.none, none, (.func ⟨"put_through", "put_through", dArgs (top 222), .stmts (dBody (top 222)), dScope (top 222), 0, [], .none, .none, .none, .none, none, .none, .none, 0⟩), ⟨[]⟩⟩
def o1434 (P : Params) : Obj := ⟨.type "code", none, (.fields ⟨[.str "put_through" 2310, .str "put_through" 2311, .str "/claim/cut.py" 2312, .int 986 0, .int 4 0, .int 0 0, .int 0 0, .int 3 0, .ref 1429, .bool true, .int 181 0, .ref 1430, .none, .ref 1431, .ref 1432, .ref 1433, .int 2318 0, .int 986 0, .str "/claim/cut.py" 2319]⟩), ⟨[]⟩⟩
def o1435 (P : Params) : Obj := ⟨.type "function", none, (.func ⟨"put_through", "put_through", dArgs (top 222), .stmts (dBody (top 222)), dScope (top 222), 3, [], .none, .none, .none, .str "rulewardens.office" 2291, none, .ref 1434, .none, 0⟩), ⟨[]⟩⟩
def o1436 (P : Params) : Obj := ⟨.type "tuple", none, (.seq ⟨[]⟩ 0), ⟨[]⟩⟩
def o1437 (P : Params) : Obj := ⟨.type "builtin_function_or_method", none, (.fields ⟨[.builtin "type.__prepare__", .type "type"]⟩), ⟨[]⟩⟩
def o1438 (P : Params) : Obj := ⟨.type "dict", none, (.dict ⟨[⟨hs P "__module__", .str "__module__" 2328, .str "rulewardens.office" 2291⟩, ⟨hs P "__qualname__", .str "__qualname__" 2330, .str "Office" 2329⟩, ⟨hs P "__firstlineno__", .str "__firstlineno__" 2332, .int 989 2331⟩, ⟨hs P "__init__", .str "__init__" 2339, .ref 1449⟩, ⟨hs P "__len__", .str "__len__" 2346, .ref 1456⟩, ⟨hs P "names_open", .str "names_open" 2354, .ref 1464⟩, ⟨hs P "change", .str "change" 2363, .ref 1471⟩, ⟨hs P "entry_of", .str "entry_of" 2371, .ref 1478⟩, ⟨hs P "open_ward", .str "open_ward" 2380, .ref 1485⟩, ⟨hs P "close_ward", .str "close_ward" 2388, .ref 1492⟩, ⟨hs P "hear", .str "hear" 2401, .ref 1499⟩, ⟨hs P "renew", .str "renew" 2419, .ref 1507⟩, ⟨hs P "swap", .str "swap" 2436, .ref 1515⟩, ⟨hs P "undo", .str "undo" 2443, .ref 1522⟩, ⟨hs P "redo", .str "redo" 2450, .ref 1529⟩, ⟨hs P "ward_of", .str "ward_of" 2458, .ref 1536⟩, ⟨hs P "editions_of", .str "editions_of" 2466, .ref 1543⟩, ⟨hs P "day_of", .str "day_of" 2474, .ref 1550⟩, ⟨hs P "lot_now", .str "lot_now" 2485, .ref 1557⟩, ⟨hs P "face_now", .str "face_now" 2496, .ref 1564⟩, ⟨hs P "__static_attributes__", .str "__static_attributes__" 2500, .ref 1565⟩]⟩ 21), ⟨[]⟩⟩
def o1439 (P : Params) : Obj := ⟨.type "tuple", none, (.seq ⟨[]⟩ 0), ⟨[]⟩⟩
def o1440 (P : Params) : Obj := ⟨.none, none, (.fields ⟨[.int 991 0, .int 4 0, .ref 1448, .int 996 0, .int 4 0, .ref 1455, .int 1000 0, .int 4 0, .ref 1462, .int 1003 0, .int 4 0, .ref 1470, .int 1011 0, .int 4 0, .ref 1477, .int 1016 0, .int 4 0, .ref 1484, .int 1023 0, .int 4 0, .ref 1491, .int 1027 0, .int 4 0, .ref 1498, .int 1034 0, .int 4 0, .ref 1506, .int 1045 0, .int 4 0, .ref 1514, .int 1052 0, .int 4 0, .ref 1521, .int 1058 0, .int 4 0, .ref 1528, .int 1064 0, .int 4 0, .ref 1535, .int 1067 0, .int 4 0, .ref 1542, .int 1070 0, .int 4 0, .ref 1549, .int 1073 0, .int 4 0, .ref 1556, .int 1077 0, .int 4 0, .ref 1563]⟩), ⟨[]⟩⟩
def o1441 (P : Params) : Obj := ⟨.type "code", none, (.fields ⟨[.str "Office" 2323, .str "Office" 2324, .str "/claim/cut.py" 2325, .int 989 0, .int 0 0, .int 0 0, .int 0 0, .int 0 0, .ref 1439, .bool false, .int 181 0, .ref 1440, .none, .none, .none, .none, .int 2326 0, .int 989 0, .str "/claim/cut.py" 2327]⟩), ⟨[]⟩⟩
def o1442 (P : Params) : Obj := ⟨.type "frame", none, .plain, ⟨[(some (.ref 1441)), (some (.ref 3)), (some (.ref 1438)), none, (some (.str "rulewardens.office" 2291)), none, (some (.ref 0))]⟩⟩
def o1443 (P : Params) : Obj := ⟨.type "tuple", none, (.seq ⟨[]⟩ 0), ⟨[]⟩⟩
def o1444 (P : Params) : Obj := ⟨.none, none, (.fields ⟨[]⟩), ⟨[]⟩⟩
def o1445 (P : Params) : Obj := ⟨.type "tuple", none, (.seq ⟨[.str "self" 2336]⟩ 0), ⟨[]⟩⟩
def o1446 (P : Params) : Obj := ⟨.type "tuple", none, (.seq ⟨[]⟩ 0), ⟨[]⟩⟩
def o1447 (P : Params) : Obj := ⟨.none, none, (.func ⟨"__init__", "Office.__init__", dArgs (inC (top 223) 0), .stmts (dBody (inC (top 223) 0)), dScope (inC (top 223) 0), 0, [], .none, .none, .none, .none, none, .none, .none, 0⟩), ⟨[]⟩⟩
def o1448 (P : Params) : Obj := ⟨.type "code", none, (.fields ⟨[.str "__init__" 2333, .str "Office.__init__" 2334, .str "/claim/cut.py" 2335, .int 991 0, .int 1 0, .int 0 0, .int 0 0, .int 3 0, .ref 1443, .bool true, .int 181 0, .ref 1444, .none, .ref 1445, .ref 1446, .ref 1447, .int 2337 0, .int 991 0, .str "/claim/cut.py" 2338]⟩), ⟨[]⟩⟩
def o1449 (P : Params) : Obj := ⟨.type "function", none, (.func ⟨"__init__", "Office.__init__", dArgs (inC (top 223) 0), .stmts (dBody (inC (top 223) 0)), dScope (inC (top 223) 0), 3, [], .none, .none, .none, .str "rulewardens.office" 2291, none, .ref 1448, .none, 0⟩), ⟨[]⟩⟩
def o1450 (P : Params) : Obj := ⟨.type "tuple", none, (.seq ⟨[]⟩ 0), ⟨[]⟩⟩
def o1451 (P : Params) : Obj := ⟨.none, none, (.fields ⟨[]⟩), ⟨[]⟩⟩
def o1452 (P : Params) : Obj := ⟨.type "tuple", none, (.seq ⟨[.str "self" 2343]⟩ 0), ⟨[]⟩⟩
def o1453 (P : Params) : Obj := ⟨.type "tuple", none, (.seq ⟨[]⟩ 0), ⟨[]⟩⟩
def o1454 (P : Params) : Obj := ⟨.none, none, (.func ⟨"__len__", "Office.__len__", dArgs (inC (top 223) 1), .stmts (dBody (inC (top 223) 1)), dScope (inC (top 223) 1), 0, [], .none, .none, .none, .none, none, .none, .none, 0⟩), ⟨[]⟩⟩
def o1455 (P : Params) : Obj := ⟨.type "code", none, (.fields ⟨[.str "__len__" 2340, .str "Office.__len__" 2341, .str "/claim/cut.py" 2342, .int 996 0, .int 1 0, .int 0 0, .int 0 0, .int 3 0, .ref 1450, .bool true, .int 181 0, .ref 1451, .none, .ref 1452, .ref 1453, .ref 1454, .int 2344 0, .int 996 0, .str "/claim/cut.py" 2345]⟩), ⟨[]⟩⟩
def o1456 (P : Params) : Obj := ⟨.type "function", none, (.func ⟨"__len__", "Office.__len__", dArgs (inC (top 223) 1), .stmts (dBody (inC (top 223) 1)), dScope (inC (top 223) 1), 3, [], .none, .none, .none, .str "rulewardens.office" 2291, none, .ref 1455, .none, 0⟩), ⟨[]⟩⟩
def o1457 (P : Params) : Obj := ⟨.type "tuple", none, (.seq ⟨[]⟩ 0), ⟨[]⟩⟩
def o1458 (P : Params) : Obj := ⟨.none, none, (.fields ⟨[]⟩), ⟨[]⟩⟩
def o1459 (P : Params) : Obj := ⟨.type "tuple", none, (.seq ⟨[.str "self" 2350]⟩ 0), ⟨[]⟩⟩
def o1460 (P : Params) : Obj := ⟨.type "tuple", none, (.seq ⟨[]⟩ 0), ⟨[]⟩⟩
def o1461 (P : Params) : Obj := ⟨.none, none, (.func ⟨"names_open", "Office.names_open", dArgs (inC (top 223) 2), .stmts (dBody (inC (top 223) 2)), dScope (inC (top 223) 2), 0, [], .none, .none, .none, .none, none, .none, .none, 0⟩), ⟨[]⟩⟩
def o1462 (P : Params) : Obj := ⟨.type "code", none, (.fields ⟨[.str "names_open" 2347, .str "Office.names_open" 2348, .str "/claim/cut.py" 2349, .int 999 0, .int 1 0, .int 0 0, .int 0 0, .int 3 0, .ref 1457, .bool true, .int 181 0, .ref 1458, .none, .ref 1459, .ref 1460, .ref 1461, .int 2351 0, .int 999 0, .str "/claim/cut.py" 2352]⟩), ⟨[]⟩⟩
def o1463 (P : Params) : Obj := ⟨.type "function", none, (.func ⟨"names_open", "Office.names_open", dArgs (inC (top 223) 2), .stmts (dBody (inC (top 223) 2)), dScope (inC (top 223) 2), 3, [], .none, .none, .none, .str "rulewardens.office" 2291, none, .ref 1462, .none, 0⟩), ⟨[]⟩⟩
def o1464 (P : Params) : Obj := ⟨.type "property", none, (.fields ⟨[.ref 1463, .none, .none, .none, .str "names_open" 2354, .bool false]⟩), ⟨[]⟩⟩
def o1465 (P : Params) : Obj := ⟨.type "tuple", none, (.seq ⟨[]⟩ 0), ⟨[]⟩⟩
def o1466 (P : Params) : Obj := ⟨.none, none, (.fields ⟨[]⟩), ⟨[]⟩⟩
def o1467 (P : Params) : Obj := ⟨.type "tuple", none, (.seq ⟨[.str "self" 2358, .str "name" 2359, .str "entry" 2360]⟩ 0), ⟨[]⟩⟩
def o1468 (P : Params) : Obj := ⟨.type "tuple", none, (.seq ⟨[]⟩ 0), ⟨[]⟩⟩
def o1469 (P : Params) : Obj := ⟨.none, none, (.func ⟨"change", "Office.change", dArgs (inC (top 223) 3), .stmts (dBody (inC (top 223) 3)), dScope (inC (top 223) 3), 0, [], .none, .none, .none, .none, none, .none, .none, 0⟩), ⟨[]⟩⟩
def o1470 (P : Params) : Obj := ⟨.type "code", none, (.fields ⟨[.str "change" 2355, .str "Office.change" 2356, .str "/claim/cut.py" 2357, .int 1003 0, .int 3 0, .int 0 0, .int 0 0, .int 3 0, .ref 1465, .bool true, .int 181 0, .ref 1466, .none, .ref 1467, .ref 1468, .ref 1469, .int 2361 0, .int 1003 0, .str "/claim/cut.py" 2362]⟩), ⟨[]⟩⟩
def o1471 (P : Params) : Obj := ⟨.type "function", none, (.func ⟨"change", "Office.change", dArgs (inC (top 223) 3), .stmts (dBody (inC (top 223) 3)), dScope (inC (top 223) 3), 3, [], .none, .none, .none, .str "rulewardens.office" 2291, none, .ref 1470, .none, 0⟩), ⟨[]⟩⟩
def o1472 (P : Params) : Obj := ⟨.type "tuple", none, (.seq ⟨[]⟩ 0), ⟨[]⟩⟩
def o1473 (P : Params) : Obj := ⟨.none, none, (.fields ⟨[]⟩), ⟨[]⟩⟩
def o1474 (P : Params) : Obj := ⟨.type "tuple", none, (.seq ⟨[.str "self" 2367, .str "name" 2368]⟩ 0), ⟨[]⟩⟩
def o1475 (P : Params) : Obj := ⟨.type "tuple", none, (.seq ⟨[]⟩ 0), ⟨[]⟩⟩
def o1476 (P : Params) : Obj := ⟨.none, none, (.func ⟨"entry_of", "Office.entry_of", dArgs (inC (top 223) 4), .stmts (dBody (inC (top 223) 4)), dScope (inC (top 223) 4), 0, [], .none, .none, .none, .none, none, .none, .none, 0⟩), ⟨[]⟩⟩
def o1477 (P : Params) : Obj := ⟨.type "code", none, (.fields ⟨[.str "entry_of" 2364, .str "Office.entry_of" 2365, .str "/claim/cut.py" 2366, .int 1011 0, .int 2 0, .int 0 0, .int 0 0, .int 3 0, .ref 1472, .bool true, .int 181 0, .ref 1473, .none, .ref 1474, .ref 1475, .ref 1476, .int 2369 0, .int 1011 0, .str "/claim/cut.py" 2370]⟩), ⟨[]⟩⟩
def o1478 (P : Params) : Obj := ⟨.type "function", none, (.func ⟨"entry_of", "Office.entry_of", dArgs (inC (top 223) 4), .stmts (dBody (inC (top 223) 4)), dScope (inC (top 223) 4), 3, [], .none, .none, .none, .str "rulewardens.office" 2291, none, .ref 1477, .none, 0⟩), ⟨[]⟩⟩
def o1479 (P : Params) : Obj := ⟨.type "tuple", none, (.seq ⟨[]⟩ 0), ⟨[]⟩⟩
def o1480 (P : Params) : Obj := ⟨.none, none, (.fields ⟨[]⟩), ⟨[]⟩⟩
def o1481 (P : Params) : Obj := ⟨.type "tuple", none, (.seq ⟨[.str "self" 2375, .str "name" 2376, .str "ward" 2377]⟩ 0), ⟨[]⟩⟩
def o1482 (P : Params) : Obj := ⟨.type "tuple", none, (.seq ⟨[]⟩ 0), ⟨[]⟩⟩
def o1483 (P : Params) : Obj := ⟨.none, none, (.func ⟨"open_ward", "Office.open_ward", dArgs (inC (top 223) 5), .stmts (dBody (inC (top 223) 5)), dScope (inC (top 223) 5), 0, [], .none, .none, .none, .none, none, .none, .none, 0⟩), ⟨[]⟩⟩
def o1484 (P : Params) : Obj := ⟨.type "code", none, (.fields ⟨[.str "open_ward" 2372, .str "Office.open_ward" 2373, .str "/claim/cut.py" 2374, .int 1016 0, .int 3 0, .int 0 0, .int 0 0, .int 3 0, .ref 1479, .bool true, .int 181 0, .ref 1480, .none, .ref 1481, .ref 1482, .ref 1483, .int 2378 0, .int 1016 0, .str "/claim/cut.py" 2379]⟩), ⟨[]⟩⟩
def o1485 (P : Params) : Obj := ⟨.type "function", none, (.func ⟨"open_ward", "Office.open_ward", dArgs (inC (top 223) 5), .stmts (dBody (inC (top 223) 5)), dScope (inC (top 223) 5), 3, [], .none, .none, .none, .str "rulewardens.office" 2291, none, .ref 1484, .none, 0⟩), ⟨[]⟩⟩
def o1486 (P : Params) : Obj := ⟨.type "tuple", none, (.seq ⟨[]⟩ 0), ⟨[]⟩⟩
def o1487 (P : Params) : Obj := ⟨.none, none, (.fields ⟨[]⟩), ⟨[]⟩⟩
def o1488 (P : Params) : Obj := ⟨.type "tuple", none, (.seq ⟨[.str "self" 2384, .str "name" 2385]⟩ 0), ⟨[]⟩⟩
def o1489 (P : Params) : Obj := ⟨.type "tuple", none, (.seq ⟨[]⟩ 0), ⟨[]⟩⟩
def o1490 (P : Params) : Obj := ⟨.none, none, (.func ⟨"close_ward", "Office.close_ward", dArgs (inC (top 223) 6), .stmts (dBody (inC (top 223) 6)), dScope (inC (top 223) 6), 0, [], .none, .none, .none, .none, none, .none, .none, 0⟩), ⟨[]⟩⟩
def o1491 (P : Params) : Obj := ⟨.type "code", none, (.fields ⟨[.str "close_ward" 2381, .str "Office.close_ward" 2382, .str "/claim/cut.py" 2383, .int 1023 0, .int 2 0, .int 0 0, .int 0 0, .int 3 0, .ref 1486, .bool true, .int 181 0, .ref 1487, .none, .ref 1488, .ref 1489, .ref 1490, .int 2386 0, .int 1023 0, .str "/claim/cut.py" 2387]⟩), ⟨[]⟩⟩
def o1492 (P : Params) : Obj := ⟨.type "function", none, (.func ⟨"close_ward", "Office.close_ward", dArgs (inC (top 223) 6), .stmts (dBody (inC (top 223) 6)), dScope (inC (top 223) 6), 3, [], .none, .none, .none, .str "rulewardens.office" 2291, none, .ref 1491, .none, 0⟩), ⟨[]⟩⟩
def o1493 (P : Params) : Obj := ⟨.type "tuple", none, (.seq ⟨[]⟩ 0), ⟨[]⟩⟩
def o1494 (P : Params) : Obj := ⟨.none, none, (.fields ⟨[]⟩), ⟨[]⟩⟩
def o1495 (P : Params) : Obj := ⟨.type "tuple", none, (.seq ⟨[.str "self" 2392, .str "name" 2393, .str "heard" 2394, .str "ward" 2395, .str "editions" 2396, .str "log" 2397, .str "longer" 2398]⟩ 0), ⟨[]⟩⟩
def o1496 (P : Params) : Obj := ⟨.type "tuple", none, (.seq ⟨[]⟩ 0), ⟨[]⟩⟩
def o1497 (P : Params) : Obj := ⟨.none, none, (.func ⟨"hear", "Office.hear", dArgs (inC (top 223) 7), .stmts (dBody (inC (top 223) 7)), dScope (inC (top 223) 7), 0, [], .none, .none, .none, .none, none, .none, .none, 0⟩), ⟨[]⟩⟩
def o1498 (P : Params) : Obj := ⟨.type "code", none, (.fields ⟨[.str "hear" 2389, .str "Office.hear" 2390, .str "/claim/cut.py" 2391, .int 1027 0, .int 3 0, .int 0 0, .int 0 0, .int 3 0, .ref 1493, .bool true, .int 181 0, .ref 1494, .none, .ref 1495, .ref 1496, .ref 1497, .int 2399 0, .int 1027 0, .str "/claim/cut.py" 2400]⟩), ⟨[]⟩⟩
def o1499 (P : Params) : Obj := ⟨.type "function", none, (.func ⟨"hear", "Office.hear", dArgs (inC (top 223) 7), .stmts (dBody (inC (top 223) 7)), dScope (inC (top 223) 7), 3, [], .none, .none, .none, .str "rulewardens.office" 2291, none, .ref 1498, .none, 0⟩), ⟨[]⟩⟩
def o1500 (P : Params) : Obj := ⟨.type "dict", none, (.dict ⟨[⟨hs P "most", .str "most" 2403, .int 60 2402⟩]⟩ 1), ⟨[]⟩⟩
def o1501 (P : Params) : Obj := ⟨.type "tuple", none, (.seq ⟨[]⟩ 0), ⟨[]⟩⟩
def o1502 (P : Params) : Obj := ⟨.none, none, (.fields ⟨[]⟩), ⟨[]⟩⟩
def o1503 (P : Params) : Obj := ⟨.type "tuple", none, (.seq ⟨[.str "self" 2407, .str "name" 2408, .str "device" 2409, .str "most" 2410, .str "present" 2411, .str "editions" 2412, .str "log" 2413, .str "parting" 2414, .str "ward" 2415, .str "paper" 2416]⟩ 0), ⟨[]⟩⟩
def o1504 (P : Params) : Obj := ⟨.type "tuple", none, (.seq ⟨[]⟩ 0), ⟨[]⟩⟩
def o1505 (P : Params) : Obj := ⟨.none, none, (.func ⟨"renew", "Office.renew", dArgs (inC (top 223) 8), .stmts (dBody (inC (top 223) 8)), dScope (inC (top 223) 8), 0, [], .none, .none, .none, .none, none, .none, .none, 0⟩), ⟨[]⟩⟩
def o1506 (P : Params) : Obj := ⟨.type "code", none, (.fields ⟨[.str "renew" 2404, .str "Office.renew" 2405, .str "/claim/cut.py" 2406, .int 1034 0, .int 3 0, .int 0 0, .int 1 0, .int 3 0, .ref 1501, .bool true, .int 181 0, .ref 1502, .none, .ref 1503, .ref 1504, .ref 1505, .int 2417 0, .int 1034 0, .str "/claim/cut.py" 2418]⟩), ⟨[]⟩⟩
def o1507 (P : Params) : Obj := ⟨.type "function", none, (.func ⟨"renew", "Office.renew", dArgs (inC (top 223) 8), .stmts (dBody (inC (top 223) 8)), dScope (inC (top 223) 8), 3, [], .none, .ref 1500, .none, .str "rulewardens.office" 2291, none, .ref 1506, .none, 0⟩), ⟨[]⟩⟩
def o1508 (P : Params) : Obj := ⟨.type "dict", none, (.dict ⟨[⟨hs P "most", .str "most" 2421, .int 60 2420⟩]⟩ 1), ⟨[]⟩⟩
def o1509 (P : Params) : Obj := ⟨.type "tuple", none, (.seq ⟨[]⟩ 0), ⟨[]⟩⟩
def o1510 (P : Params) : Obj := ⟨.none, none, (.fields ⟨[]⟩), ⟨[]⟩⟩
def o1511 (P : Params) : Obj := ⟨.type "tuple", none, (.seq ⟨[.str "self" 2425, .str "name" 2426, .str "device" 2427, .str "most" 2428, .str "present" 2429, .str "editions" 2430, .str "log" 2431, .str "ward" 2432, .str "paper" 2433]⟩ 0), ⟨[]⟩⟩
def o1512 (P : Params) : Obj := ⟨.type "tuple", none, (.seq ⟨[]⟩ 0), ⟨[]⟩⟩
def o1513 (P : Params) : Obj := ⟨.none, none, (.func ⟨"swap", "Office.swap", dArgs (inC (top 223) 9), .stmts (dBody (inC (top 223) 9)), dScope (inC (top 223) 9), 0, [], .none, .none, .none, .none, none, .none, .none, 0⟩), ⟨[]⟩⟩
def o1514 (P : Params) : Obj := ⟨.type "code", none, (.fields ⟨[.str "swap" 2422, .str "Office.swap" 2423, .str "/claim/cut.py" 2424, .int 1045 0, .int 3 0, .int 0 0, .int 1 0, .int 3 0, .ref 1509, .bool true, .int 181 0, .ref 1510, .none, .ref 1511, .ref 1512, .ref 1513, .int 2434 0, .int 1045 0, .str "/claim/cut.py" 2435]⟩), ⟨[]⟩⟩
def o1515 (P : Params) : Obj := ⟨.type "function", none, (.func ⟨"swap", "Office.swap", dArgs (inC (top 223) 9), .stmts (dBody (inC (top 223) 9)), dScope (inC (top 223) 9), 3, [], .none, .ref 1508, .none, .str "rulewardens.office" 2291, none, .ref 1514, .none, 0⟩), ⟨[]⟩⟩
def o1516 (P : Params) : Obj := ⟨.type "tuple", none, (.seq ⟨[]⟩ 0), ⟨[]⟩⟩
def o1517 (P : Params) : Obj := ⟨.none, none, (.fields ⟨[]⟩), ⟨[]⟩⟩
def o1518 (P : Params) : Obj := ⟨.type "tuple", none, (.seq ⟨[.str "self" 2440]⟩ 0), ⟨[]⟩⟩
def o1519 (P : Params) : Obj := ⟨.type "tuple", none, (.seq ⟨[]⟩ 0), ⟨[]⟩⟩
def o1520 (P : Params) : Obj := ⟨.none, none, (.func ⟨"undo", "Office.undo", dArgs (inC (top 223) 10), .stmts (dBody (inC (top 223) 10)), dScope (inC (top 223) 10), 0, [], .none, .none, .none, .none, none, .none, .none, 0⟩), ⟨[]⟩⟩
def o1521 (P : Params) : Obj := ⟨.type "code", none, (.fields ⟨[.str "undo" 2437, .str "Office.undo" 2438, .str "/claim/cut.py" 2439, .int 1052 0, .int 1 0, .int 0 0, .int 0 0, .int 3 0, .ref 1516, .bool true, .int 181 0, .ref 1517, .none, .ref 1518, .ref 1519, .ref 1520, .int 2441 0, .int 1052 0, .str "/claim/cut.py" 2442]⟩), ⟨[]⟩⟩
def o1522 (P : Params) : Obj := ⟨.type "function", none, (.func ⟨"undo", "Office.undo", dArgs (inC (top 223) 10), .stmts (dBody (inC (top 223) 10)), dScope (inC (top 223) 10), 3, [], .none, .none, .none, .str "rulewardens.office" 2291, none, .ref 1521, .none, 0⟩), ⟨[]⟩⟩
def o1523 (P : Params) : Obj := ⟨.type "tuple", none, (.seq ⟨[]⟩ 0), ⟨[]⟩⟩
def o1524 (P : Params) : Obj := ⟨.none, none, (.fields ⟨[]⟩), ⟨[]⟩⟩
def o1525 (P : Params) : Obj := ⟨.type "tuple", none, (.seq ⟨[.str "self" 2447]⟩ 0), ⟨[]⟩⟩
def o1526 (P : Params) : Obj := ⟨.type "tuple", none, (.seq ⟨[]⟩ 0), ⟨[]⟩⟩
def o1527 (P : Params) : Obj := ⟨.none, none, (.func ⟨"redo", "Office.redo", dArgs (inC (top 223) 11), .stmts (dBody (inC (top 223) 11)), dScope (inC (top 223) 11), 0, [], .none, .none, .none, .none, none, .none, .none, 0⟩), ⟨[]⟩⟩
def o1528 (P : Params) : Obj := ⟨.type "code", none, (.fields ⟨[.str "redo" 2444, .str "Office.redo" 2445, .str "/claim/cut.py" 2446, .int 1058 0, .int 1 0, .int 0 0, .int 0 0, .int 3 0, .ref 1523, .bool true, .int 181 0, .ref 1524, .none, .ref 1525, .ref 1526, .ref 1527, .int 2448 0, .int 1058 0, .str "/claim/cut.py" 2449]⟩), ⟨[]⟩⟩
def o1529 (P : Params) : Obj := ⟨.type "function", none, (.func ⟨"redo", "Office.redo", dArgs (inC (top 223) 11), .stmts (dBody (inC (top 223) 11)), dScope (inC (top 223) 11), 3, [], .none, .none, .none, .str "rulewardens.office" 2291, none, .ref 1528, .none, 0⟩), ⟨[]⟩⟩
def o1530 (P : Params) : Obj := ⟨.type "tuple", none, (.seq ⟨[]⟩ 0), ⟨[]⟩⟩
def o1531 (P : Params) : Obj := ⟨.none, none, (.fields ⟨[]⟩), ⟨[]⟩⟩
def o1532 (P : Params) : Obj := ⟨.type "tuple", none, (.seq ⟨[.str "self" 2454, .str "name" 2455]⟩ 0), ⟨[]⟩⟩
def o1533 (P : Params) : Obj := ⟨.type "tuple", none, (.seq ⟨[]⟩ 0), ⟨[]⟩⟩
def o1534 (P : Params) : Obj := ⟨.none, none, (.func ⟨"ward_of", "Office.ward_of", dArgs (inC (top 223) 12), .stmts (dBody (inC (top 223) 12)), dScope (inC (top 223) 12), 0, [], .none, .none, .none, .none, none, .none, .none, 0⟩), ⟨[]⟩⟩
def o1535 (P : Params) : Obj := ⟨.type "code", none, (.fields ⟨[.str "ward_of" 2451, .str "Office.ward_of" 2452, .str "/claim/cut.py" 2453, .int 1064 0, .int 2 0, .int 0 0, .int 0 0, .int 3 0, .ref 1530, .bool true, .int 181 0, .ref 1531, .none, .ref 1532, .ref 1533, .ref 1534, .int 2456 0, .int 1064 0, .str "/claim/cut.py" 2457]⟩), ⟨[]⟩⟩
def o1536 (P : Params) : Obj := ⟨.type "function", none, (.func ⟨"ward_of", "Office.ward_of", dArgs (inC (top 223) 12), .stmts (dBody (inC (top 223) 12)), dScope (inC (top 223) 12), 3, [], .none, .none, .none, .str "rulewardens.office" 2291, none, .ref 1535, .none, 0⟩), ⟨[]⟩⟩
def o1537 (P : Params) : Obj := ⟨.type "tuple", none, (.seq ⟨[]⟩ 0), ⟨[]⟩⟩
def o1538 (P : Params) : Obj := ⟨.none, none, (.fields ⟨[]⟩), ⟨[]⟩⟩
def o1539 (P : Params) : Obj := ⟨.type "tuple", none, (.seq ⟨[.str "self" 2462, .str "name" 2463]⟩ 0), ⟨[]⟩⟩
def o1540 (P : Params) : Obj := ⟨.type "tuple", none, (.seq ⟨[]⟩ 0), ⟨[]⟩⟩
def o1541 (P : Params) : Obj := ⟨.none, none, (.func ⟨"editions_of", "Office.editions_of", dArgs (inC (top 223) 13), .stmts (dBody (inC (top 223) 13)), dScope (inC (top 223) 13), 0, [], .none, .none, .none, .none, none, .none, .none, 0⟩), ⟨[]⟩⟩
def o1542 (P : Params) : Obj := ⟨.type "code", none, (.fields ⟨[.str "editions_of" 2459, .str "Office.editions_of" 2460, .str "/claim/cut.py" 2461, .int 1067 0, .int 2 0, .int 0 0, .int 0 0, .int 3 0, .ref 1537, .bool true, .int 181 0, .ref 1538, .none, .ref 1539, .ref 1540, .ref 1541, .int 2464 0, .int 1067 0, .str "/claim/cut.py" 2465]⟩), ⟨[]⟩⟩
def o1543 (P : Params) : Obj := ⟨.type "function", none, (.func ⟨"editions_of", "Office.editions_of", dArgs (inC (top 223) 13), .stmts (dBody (inC (top 223) 13)), dScope (inC (top 223) 13), 3, [], .none, .none, .none, .str "rulewardens.office" 2291, none, .ref 1542, .none, 0⟩), ⟨[]⟩⟩
def o1544 (P : Params) : Obj := ⟨.type "tuple", none, (.seq ⟨[]⟩ 0), ⟨[]⟩⟩
def o1545 (P : Params) : Obj := ⟨.none, none, (.fields ⟨[]⟩), ⟨[]⟩⟩
def o1546 (P : Params) : Obj := ⟨.type "tuple", none, (.seq ⟨[.str "self" 2470, .str "name" 2471]⟩ 0), ⟨[]⟩⟩
def o1547 (P : Params) : Obj := ⟨.type "tuple", none, (.seq ⟨[]⟩ 0), ⟨[]⟩⟩
def o1548 (P : Params) : Obj := ⟨.none, none, (.func ⟨"day_of", "Office.day_of", dArgs (inC (top 223) 14), .stmts (dBody (inC (top 223) 14)), dScope (inC (top 223) 14), 0, [], .none, .none, .none, .none, none, .none, .none, 0⟩), ⟨[]⟩⟩
def o1549 (P : Params) : Obj := ⟨.type "code", none, (.fields ⟨[.str "day_of" 2467, .str "Office.day_of" 2468, .str "/claim/cut.py" 2469, .int 1070 0, .int 2 0, .int 0 0, .int 0 0, .int 3 0, .ref 1544, .bool true, .int 181 0, .ref 1545, .none, .ref 1546, .ref 1547, .ref 1548, .int 2472 0, .int 1070 0, .str "/claim/cut.py" 2473]⟩), ⟨[]⟩⟩
def o1550 (P : Params) : Obj := ⟨.type "function", none, (.func ⟨"day_of", "Office.day_of", dArgs (inC (top 223) 14), .stmts (dBody (inC (top 223) 14)), dScope (inC (top 223) 14), 3, [], .none, .none, .none, .str "rulewardens.office" 2291, none, .ref 1549, .none, 0⟩), ⟨[]⟩⟩
def o1551 (P : Params) : Obj := ⟨.type "tuple", none, (.seq ⟨[]⟩ 0), ⟨[]⟩⟩
def o1552 (P : Params) : Obj := ⟨.none, none, (.fields ⟨[]⟩), ⟨[]⟩⟩
def o1553 (P : Params) : Obj := ⟨.type "tuple", none, (.seq ⟨[.str "self" 2478, .str "name" 2479, .str "ward" 2480, .str "editions" 2481, .str "log" 2482]⟩ 0), ⟨[]⟩⟩
def o1554 (P : Params) : Obj := ⟨.type "tuple", none, (.seq ⟨[]⟩ 0), ⟨[]⟩⟩
def o1555 (P : Params) : Obj := ⟨.none, none, (.func ⟨"lot_now", "Office.lot_now", dArgs (inC (top 223) 15), .stmts (dBody (inC (top 223) 15)), dScope (inC (top 223) 15), 0, [], .none, .none, .none, .none, none, .none, .none, 0⟩), ⟨[]⟩⟩
def o1556 (P : Params) : Obj := ⟨.type "code", none, (.fields ⟨[.str "lot_now" 2475, .str "Office.lot_now" 2476, .str "/claim/cut.py" 2477, .int 1073 0, .int 2 0, .int 0 0, .int 0 0, .int 3 0, .ref 1551, .bool true, .int 181 0, .ref 1552, .none, .ref 1553, .ref 1554, .ref 1555, .int 2483 0, .int 1073 0, .str "/claim/cut.py" 2484]⟩), ⟨[]⟩⟩
def o1557 (P : Params) : Obj := ⟨.type "function", none, (.func ⟨"lot_now", "Office.lot_now", dArgs (inC (top 223) 15), .stmts (dBody (inC (top 223) 15)), dScope (inC (top 223) 15), 3, [], .none, .none, .none, .str "rulewardens.office" 2291, none, .ref 1556, .none, 0⟩), ⟨[]⟩⟩
def o1558 (P : Params) : Obj := ⟨.type "tuple", none, (.seq ⟨[]⟩ 0), ⟨[]⟩⟩
def o1559 (P : Params) : Obj := ⟨.none, none, (.fields ⟨[]⟩), ⟨[]⟩⟩
def o1560 (P : Params) : Obj := ⟨.type "tuple", none, (.seq ⟨[.str "self" 2489, .str "name" 2490, .str "ward" 2491, .str "editions" 2492, .str "log" 2493]⟩ 0), ⟨[]⟩⟩
def o1561 (P : Params) : Obj := ⟨.type "tuple", none, (.seq ⟨[]⟩ 0), ⟨[]⟩⟩
def o1562 (P : Params) : Obj := ⟨.none, none, (.func ⟨"face_now", "Office.face_now", dArgs (inC (top 223) 16), .stmts (dBody (inC (top 223) 16)), dScope (inC (top 223) 16), 0, [], .none, .none, .none, .none, none, .none, .none, 0⟩), ⟨[]⟩⟩
def o1563 (P : Params) : Obj := ⟨.type "code", none, (.fields ⟨[.str "face_now" 2486, .str "Office.face_now" 2487, .str "/claim/cut.py" 2488, .int 1077 0, .int 2 0, .int 0 0, .int 0 0, .int 3 0, .ref 1558, .bool true, .int 181 0, .ref 1559, .none, .ref 1560, .ref 1561, .ref 1562, .int 2494 0, .int 1077 0, .str "/claim/cut.py" 2495]⟩), ⟨[]⟩⟩
def o1564 (P : Params) : Obj := ⟨.type "function", none, (.func ⟨"face_now", "Office.face_now", dArgs (inC (top 223) 16), .stmts (dBody (inC (top 223) 16)), dScope (inC (top 223) 16), 3, [], .none, .none, .none, .str "rulewardens.office" 2291, none, .ref 1563, .none, 0⟩), ⟨[]⟩⟩
def o1565 (P : Params) : Obj := ⟨.type "tuple", none, (.seq ⟨[.str "ahead" 2497, .str "open_now" 2498, .str "past" 2499]⟩ 0), ⟨[]⟩⟩
def o1566 (P : Params) : Obj := ⟨.type "dict", none, (.dict ⟨[⟨hs P "__module__", .str "__module__" 2328, .str "rulewardens.office" 2291⟩, ⟨hs P "__firstlineno__", .str "__firstlineno__" 2332, .int 989 2331⟩, ⟨hs P "__init__", .str "__init__" 2339, .ref 1449⟩, ⟨hs P "__len__", .str "__len__" 2346, .ref 1456⟩, ⟨hs P "names_open", .str "names_open" 2354, .ref 1464⟩, ⟨hs P "change", .str "change" 2363, .ref 1471⟩, ⟨hs P "entry_of", .str "entry_of" 2371, .ref 1478⟩, ⟨hs P "open_ward", .str "open_ward" 2380, .ref 1485⟩, ⟨hs P "close_ward", .str "close_ward" 2388, .ref 1492⟩, ⟨hs P "hear", .str "hear" 2401, .ref 1499⟩, ⟨hs P "renew", .str "renew" 2419, .ref 1507⟩, ⟨hs P "swap", .str "swap" 2436, .ref 1515⟩, ⟨hs P "undo", .str "undo" 2443, .ref 1522⟩, ⟨hs P "redo", .str "redo" 2450, .ref 1529⟩, ⟨hs P "ward_of", .str "ward_of" 2458, .ref 1536⟩, ⟨hs P "editions_of", .str "editions_of" 2466, .ref 1543⟩, ⟨hs P "day_of", .str "day_of" 2474, .ref 1550⟩, ⟨hs P "lot_now", .str "lot_now" 2485, .ref 1557⟩, ⟨hs P "face_now", .str "face_now" 2496, .ref 1564⟩, ⟨hs P "__static_attributes__", .str "__static_attributes__" 2500, .ref 1565⟩, ⟨hs P "__dict__", .str "__dict__" 2502, .ref 1568⟩, ⟨hs P "__weakref__", .str "__weakref__" 2504, .ref 1569⟩, ⟨hs P "__doc__", .str "__doc__" 2505, .none⟩]⟩ 4), ⟨[]⟩⟩
def o1567 (P : Params) : Obj := ⟨.type "type", none, (.cls ⟨"Office", [.type "object"], [.ref 1567, .type "object"], 1566, "Office", true, [], [], false, none, false⟩), ⟨[none, none, (some (.str "Office" 2321)), (some (.str "Office" 2329)), (some (.builtin "object.__new__")), (some (.bool true))]⟩⟩
def o1568 (P : Params) : Obj := ⟨.type "getset_descriptor", none, (.fields ⟨[.str "__dict__" 2501, .ref 1567, .builtin "function.__dict__", .builtin "function.__dict__#set"]⟩), ⟨[]⟩⟩
def o1569 (P : Params) : Obj := ⟨.type "getset_descriptor", none, (.fields ⟨[.str "__weakref__" 2503, .ref 1567, .builtin "ExceptionGroup.__weakref__", .none]⟩), ⟨[]⟩⟩
def o1570 (P : Params) : Obj := ⟨.type "super", none, (.fields ⟨[.ref 1567, .ref 1567, .ref 1567]⟩), ⟨[]⟩⟩
def o1571 (P : Params) : Obj := ⟨.type "builtin_function_or_method", none, (.fields ⟨[.builtin "object.__init_subclass__", .ref 1567]⟩), ⟨[]⟩⟩
def o1572 (P : Params) : Obj := ⟨.type "tuple", none, (.seq ⟨[]⟩ 0), ⟨[]⟩⟩
def o1573 (P : Params) : Obj := ⟨.none, none, (.fields ⟨[]⟩), ⟨[]⟩⟩
def o1574 (P : Params) : Obj := ⟨.type "tuple", none, (.seq ⟨[.str "words" 2523, .str "word" 2524, .str "found" 2525]⟩ 0), ⟨[]⟩⟩
def o1575 (P : Params) : Obj := ⟨.type "tuple", none, (.seq ⟨[]⟩ 0), ⟨[]⟩⟩
def o1576 (P : Params) : Obj := ⟨.none, none, (.func ⟨"harms_in", "harms_in", dArgs (top 230), .stmts (dBody (top 230)), dScope (top 230), 0, [], .none, .none, .none, .none, none, .none, .none, 0⟩), ⟨[]⟩⟩
def o1577 (P : Params) : Obj := ⟨.type "code", none, (.fields ⟨[.str "harms_in" 2520, .str "harms_in" 2521, .str "/claim/cut.py" 2522, .int 1086 0, .int 2 0, .int 0 0, .int 0 0, .int 3 0, .ref 1572, .bool true, .int 181 0, .ref 1573, .none, .ref 1574, .ref 1575, .ref 1576, .int 2526 0, .int 1086 0, .str "/claim/cut.py" 2527]⟩), ⟨[]⟩⟩
def o1578 (P : Params) : Obj := ⟨.type "function", none, (.func ⟨"harms_in", "harms_in", dArgs (top 230), .stmts (dBody (top 230)), dScope (top 230), 3, [], .none, .none, .none, .str "rulewardens.console" 2508, none, .ref 1577, .none, 0⟩), ⟨[]⟩⟩
def o1579 (P : Params) : Obj := ⟨.type "tuple", none, (.seq ⟨[]⟩ 0), ⟨[]⟩⟩
def o1580 (P : Params) : Obj := ⟨.none, none, (.fields ⟨[]⟩), ⟨[]⟩⟩
def o1581 (P : Params) : Obj := ⟨.type "tuple", none, (.seq ⟨[.str "word" 2532, .str "found" 2533]⟩ 0), ⟨[]⟩⟩
def o1582 (P : Params) : Obj := ⟨.type "tuple", none, (.seq ⟨[]⟩ 0), ⟨[]⟩⟩
def o1583 (P : Params) : Obj := ⟨.none, none, (.func ⟨"letters_in", "letters_in", dArgs (top 231), .stmts (dBody (top 231)), dScope (top 231), 0, [], .none, .none, .none, .none, none, .none, .none, 0⟩), ⟨[]⟩⟩
def o1584 (P : Params) : Obj := ⟨.type "code", none, (.fields ⟨[.str "letters_in" 2529, .str "letters_in" 2530, .str "/claim/cut.py" 2531, .int 1091 0, .int 1 0, .int 0 0, .int 0 0, .int 3 0, .ref 1579, .bool true, .int 181 0, .ref 1580, .none, .ref 1581, .ref 1582, .ref 1583, .int 2534 0, .int 1091 0, .str "/claim/cut.py" 2535]⟩), ⟨[]⟩⟩
def o1585 (P : Params) : Obj := ⟨.type "function", none, (.func ⟨"letters_in", "letters_in", dArgs (top 231), .stmts (dBody (top 231)), dScope (top 231), 3, [], .none, .none, .none, .str "rulewardens.console" 2508, none, .ref 1584, .none, 0⟩), ⟨[]⟩⟩
def o1586 (P : Params) : Obj := ⟨.type "tuple", none, (.seq ⟨[]⟩ 0), ⟨[]⟩⟩
def o1587 (P : Params) : Obj := ⟨.none, none, (.fields ⟨[]⟩), ⟨[]⟩⟩
def o1588 (P : Params) : Obj := ⟨.none, none, (.func ⟨"device_told", "device_told", dArgs (top 232), .stmts (dBody (top 232)), dScope (top 232), 0, [], .none, .none, .none, .none, none, .none, .none, 0⟩), ⟨[]⟩⟩
def o1589 (P : Params) : Obj := ⟨.type "code", none, (.fields ⟨[.str "device_told" 2537, .str "device_told" 2538, .str "/claim/cut.py" 2539, .int 1096 0, .int 2 0, .int 0 0, .int 0 0, .int 3 0, .ref 1586, .bool true, .int 181 0, .ref 1587, .none, .none, .none, .ref 1588, .int 2540 0, .int 1096 0, .str "/claim/cut.py" 2541]⟩), ⟨[]⟩⟩
def o1590 (P : Params) : Obj := ⟨.type "function", none, (.func ⟨"device_told", "device_told", dArgs (top 232), .stmts (dBody (top 232)), dScope (top 232), 3, [], .none, .none, .none, .str "rulewardens.console" 2508, none, .ref 1589, .none, 0⟩), ⟨[]⟩⟩
def o1591 (P : Params) : Obj := ⟨.type "tuple", none, (.seq ⟨[]⟩ 0), ⟨[]⟩⟩
def o1592 (P : Params) : Obj := ⟨.none, none, (.fields ⟨[]⟩), ⟨[]⟩⟩
def o1593 (P : Params) : Obj := ⟨.type "tuple", none, (.seq ⟨[.str "words" 2546]⟩ 0), ⟨[]⟩⟩
def o1594 (P : Params) : Obj := ⟨.type "tuple", none, (.seq ⟨[]⟩ 0), ⟨[]⟩⟩
def o1595 (P : Params) : Obj := ⟨.none, none, (.func ⟨"words_or_none", "words_or_none", dArgs (top 233), .stmts (dBody (top 233)), dScope (top 233), 0, [], .none, .none, .none, .none, none, .none, .none, 0⟩), ⟨[]⟩⟩
def o1596 (P : Params) : Obj := ⟨.type "code", none, (.fields ⟨[.str "words_or_none" 2543, .str "words_or_none" 2544, .str "/claim/cut.py" 2545, .int 1101 0, .int 1 0, .int 0 0, .int 0 0, .int 3 0, .ref 1591, .bool true, .int 181 0, .ref 1592, .none, .ref 1593, .ref 1594, .ref 1595, .int 2547 0, .int 1101 0, .str "/claim/cut.py" 2548]⟩), ⟨[]⟩⟩
def o1597 (P : Params) : Obj := ⟨.type "function", none, (.func ⟨"words_or_none", "words_or_none", dArgs (top 233), .stmts (dBody (top 233)), dScope (top 233), 3, [], .none, .none, .none, .str "rulewardens.console" 2508, none, .ref 1596, .none, 0⟩), ⟨[]⟩⟩
def o1598 (P : Params) : Obj := ⟨.type "tuple", none, (.seq ⟨[]⟩ 0), ⟨[]⟩⟩
def o1599 (P : Params) : Obj := ⟨.none, none, (.fields ⟨[]⟩), ⟨[]⟩⟩
def o1600 (P : Params) : Obj := ⟨.type "tuple", none, (.seq ⟨[.str "number" 2553]⟩ 0), ⟨[]⟩⟩
def o1601 (P : Params) : Obj := ⟨.type "tuple", none, (.seq ⟨[]⟩ 0), ⟨[]⟩⟩
def o1602 (P : Params) : Obj := ⟨.none, none, (.func ⟨"number_or_never", "number_or_never", dArgs (top 234), .stmts (dBody (top 234)), dScope (top 234), 0, [], .none, .none, .none, .none, none, .none, .none, 0⟩), ⟨[]⟩⟩
def o1603 (P : Params) : Obj := ⟨.type "code", none, (.fields ⟨[.str "number_or_never" 2550, .str "number_or_never" 2551, .str "/claim/cut.py" 2552, .int 1103 0, .int 1 0, .int 0 0, .int 0 0, .int 3 0, .ref 1598, .bool true, .int 181 0, .ref 1599, .none, .ref 1600, .ref 1601, .ref 1602, .int 2554 0, .int 1103 0, .str "/claim/cut.py" 2555]⟩), ⟨[]⟩⟩
def o1604 (P : Params) : Obj := ⟨.type "function", none, (.func ⟨"number_or_never", "number_or_never", dArgs (top 234), .stmts (dBody (top 234)), dScope (top 234), 3, [], .none, .none, .none, .str "rulewardens.console" 2508, none, .ref 1603, .none, 0⟩), ⟨[]⟩⟩
def o1605 (P : Params) : Obj := ⟨.type "tuple", none, (.seq ⟨[]⟩ 0), ⟨[]⟩⟩
def o1606 (P : Params) : Obj := ⟨.none, none, (.fields ⟨[]⟩), ⟨[]⟩⟩
def o1607 (P : Params) : Obj := ⟨.type "tuple", none, (.seq ⟨[.str "is_so" 2560]⟩ 0), ⟨[]⟩⟩
def o1608 (P : Params) : Obj := ⟨.type "tuple", none, (.seq ⟨[]⟩ 0), ⟨[]⟩⟩
def o1609 (P : Params) : Obj := ⟨.none, none, (.func ⟨"yes_or_no", "yes_or_no", dArgs (top 235), .stmts (dBody (top 235)), dScope (top 235), 0, [], .none, .none, .none, .none, none, .none, .none, 0⟩), ⟨[]⟩⟩
def o1610 (P : Params) : Obj := ⟨.type "code", none, (.fields ⟨[.str "yes_or_no" 2557, .str "yes_or_no" 2558, .str "/claim/cut.py" 2559, .int 1105 0, .int 1 0, .int 0 0, .int 0 0, .int 3 0, .ref 1605, .bool true, .int 181 0, .ref 1606, .none, .ref 1607, .ref 1608, .ref 1609, .int 2561 0, .int 1105 0, .str "/claim/cut.py" 2562]⟩), ⟨[]⟩⟩
def o1611 (P : Params) : Obj := ⟨.type "function", none, (.func ⟨"yes_or_no", "yes_or_no", dArgs (top 235), .stmts (dBody (top 235)), dScope (top 235), 3, [], .none, .none, .none, .str "rulewardens.console" 2508, none, .ref 1610, .none, 0⟩), ⟨[]⟩⟩
def o1612 (P : Params) : Obj := ⟨.type "tuple", none, (.seq ⟨[]⟩ 0), ⟨[]⟩⟩
def o1613 (P : Params) : Obj := ⟨.none, none, (.fields ⟨[]⟩), ⟨[]⟩⟩
def o1614 (P : Params) : Obj := ⟨.type "tuple", none, (.seq ⟨[.str "office" 2567, .str "words" 2568, .str "word" 2569, .str "name" 2570, .str "text" 2571, .str "ward" 2572]⟩ 0), ⟨[]⟩⟩
def o1615 (P : Params) : Obj := ⟨.type "tuple", none, (.seq ⟨[]⟩ 0), ⟨[]⟩⟩
def o1616 (P : Params) : Obj := ⟨.none, none, (.func ⟨"opened", "opened", dArgs (top 236), .stmts (dBody (top 236)), dScope (top 236), 0, [], .none, .none, .none, .none, none, .none, .none, 0⟩), ⟨[]⟩⟩
def o1617 (P : Params) : Obj := ⟨.type "code", none, (.fields ⟨[.str "opened" 2564, .str "opened" 2565, .str "/claim/cut.py" 2566, .int 1107 0, .int 2 0, .int 0 0, .int 0 0, .int 3 0, .ref 1612, .bool true, .int 181 0, .ref 1613, .none, .ref 1614, .ref 1615, .ref 1616, .int 2573 0, .int 1107 0, .str "/claim/cut.py" 2574]⟩), ⟨[]⟩⟩
def o1618 (P : Params) : Obj := ⟨.type "function", none, (.func ⟨"opened", "opened", dArgs (top 236), .stmts (dBody (top 236)), dScope (top 236), 3, [], .none, .none, .none, .str "rulewardens.console" 2508, none, .ref 1617, .none, 0⟩), ⟨[]⟩⟩
def o1619 (P : Params) : Obj := ⟨.type "tuple", none, (.seq ⟨[]⟩ 0), ⟨[]⟩⟩
def o1620 (P : Params) : Obj := ⟨.none, none, (.fields ⟨[]⟩), ⟨[]⟩⟩
def o1621 (P : Params) : Obj := ⟨.type "tuple", none, (.seq ⟨[.str "office" 2579, .str "words" 2580]⟩ 0), ⟨[]⟩⟩
def o1622 (P : Params) : Obj := ⟨.type "tuple", none, (.seq ⟨[]⟩ 0), ⟨[]⟩⟩
def o1623 (P : Params) : Obj := ⟨.none, none, (.func ⟨"closed", "closed", dArgs (top 237), .stmts (dBody (top 237)), dScope (top 237), 0, [], .none, .none, .none, .none, none, .none, .none, 0⟩), ⟨[]⟩⟩
def o1624 (P : Params) : Obj := ⟨.type "code", none, (.fields ⟨[.str "closed" 2576, .str "closed" 2577, .str "/claim/cut.py" 2578, .int 1118 0, .int 2 0, .int 0 0, .int 0 0, .int 3 0, .ref 1619, .bool true, .int 181 0, .ref 1620, .none, .ref 1621, .ref 1622, .ref 1623, .int 2581 0, .int 1118 0, .str "/claim/cut.py" 2582]⟩), ⟨[]⟩⟩
def o1625 (P : Params) : Obj := ⟨.type "function", none, (.func ⟨"closed", "closed", dArgs (top 237), .stmts (dBody (top 237)), dScope (top 237), 3, [], .none, .none, .none, .str "rulewardens.console" 2508, none, .ref 1624, .none, 0⟩), ⟨[]⟩⟩
def o1626 (P : Params) : Obj := ⟨.type "tuple", none, (.seq ⟨[]⟩ 0), ⟨[]⟩⟩
def o1627 (P : Params) : Obj := ⟨.none, none, (.fields ⟨[]⟩), ⟨[]⟩⟩
def o1628 (P : Params) : Obj := ⟨.type "tuple", none, (.seq ⟨[.str "office" 2587, .str "words" 2588, .str "device" 2589]⟩ 0), ⟨[]⟩⟩
def o1629 (P : Params) : Obj := ⟨.type "tuple", none, (.seq ⟨[]⟩ 0), ⟨[]⟩⟩
def o1630 (P : Params) : Obj := ⟨.none, none, (.func ⟨"renewed", "renewed", dArgs (top 238), .stmts (dBody (top 238)), dScope (top 238), 0, [], .none, .none, .none, .none, none, .none, .none, 0⟩), ⟨[]⟩⟩
def o1631 (P : Params) : Obj := ⟨.type "code", none, (.fields ⟨[.str "renewed" 2584, .str "renewed" 2585, .str "/claim/cut.py" 2586, .int 1121 0, .int 2 0, .int 0 0, .int 0 0, .int 3 0, .ref 1626, .bool true, .int 181 0, .ref 1627, .none, .ref 1628, .ref 1629, .ref 1630, .int 2590 0, .int 1121 0, .str "/claim/cut.py" 2591]⟩), ⟨[]⟩⟩
def o1632 (P : Params) : Obj := ⟨.type "function", none, (.func ⟨"renewed", "renewed", dArgs (top 238), .stmts (dBody (top 238)), dScope (top 238), 3, [], .none, .none, .none, .str "rulewardens.console" 2508, none, .ref 1631, .none, 0⟩), ⟨[]⟩⟩
def o1633 (P : Params) : Obj := ⟨.type "tuple", none, (.seq ⟨[]⟩ 0), ⟨[]⟩⟩
def o1634 (P : Params) : Obj := ⟨.none, none, (.fields ⟨[]⟩), ⟨[]⟩⟩
def o1635 (P : Params) : Obj := ⟨.type "tuple", none, (.seq ⟨[.str "office" 2596, .str "words" 2597, .str "device" 2598]⟩ 0), ⟨[]⟩⟩
def o1636 (P : Params) : Obj := ⟨.type "tuple", none, (.seq ⟨[]⟩ 0), ⟨[]⟩⟩
def o1637 (P : Params) : Obj := ⟨.none, none, (.func ⟨"replaced_by", "replaced_by", dArgs (top 239), .stmts (dBody (top 239)), dScope (top 239), 0, [], .none, .none, .none, .none, none, .none, .none, 0⟩), ⟨[]⟩⟩
def o1638 (P : Params) : Obj := ⟨.type "code", none, (.fields ⟨[.str "replaced_by" 2593, .str "replaced_by" 2594, .str "/claim/cut.py" 2595, .int 1128 0, .int 2 0, .int 0 0, .int 0 0, .int 3 0, .ref 1633, .bool true, .int 181 0, .ref 1634, .none, .ref 1635, .ref 1636, .ref 1637, .int 2599 0, .int 1128 0, .str "/claim/cut.py" 2600]⟩), ⟨[]⟩⟩
def o1639 (P : Params) : Obj := ⟨.type "function", none, (.func ⟨"replaced_by", "replaced_by", dArgs (top 239), .stmts (dBody (top 239)), dScope (top 239), 3, [], .none, .none, .none, .str "rulewardens.console" 2508, none, .ref 1638, .none, 0⟩), ⟨[]⟩⟩
def o1640 (P : Params) : Obj := ⟨.type "tuple", none, (.seq ⟨[]⟩ 0), ⟨[]⟩⟩
def o1641 (P : Params) : Obj := ⟨.none, none, (.fields ⟨[]⟩), ⟨[]⟩⟩
def o1642 (P : Params) : Obj := ⟨.type "tuple", none, (.seq ⟨[.str "office" 2605, .str "words" 2606, .str "heard" 2607]⟩ 0), ⟨[]⟩⟩
def o1643 (P : Params) : Obj := ⟨.type "tuple", none, (.seq ⟨[]⟩ 0), ⟨[]⟩⟩
def o1644 (P : Params) : Obj := ⟨.none, none, (.func ⟨"heard_now", "heard_now", dArgs (top 240), .stmts (dBody (top 240)), dScope (top 240), 0, [], .none, .none, .none, .none, none, .none, .none, 0⟩), ⟨[]⟩⟩
def o1645 (P : Params) : Obj := ⟨.type "code", none, (.fields ⟨[.str "heard_now" 2602, .str "heard_now" 2603, .str "/claim/cut.py" 2604, .int 1135 0, .int 2 0, .int 0 0, .int 0 0, .int 3 0, .ref 1640, .bool true, .int 181 0, .ref 1641, .none, .ref 1642, .ref 1643, .ref 1644, .int 2608 0, .int 1135 0, .str "/claim/cut.py" 2609]⟩), ⟨[]⟩⟩
def o1646 (P : Params) : Obj := ⟨.type "function", none, (.func ⟨"heard_now", "heard_now", dArgs (top 240), .stmts (dBody (top 240)), dScope (top 240), 3, [], .none, .none, .none, .str "rulewardens.console" 2508, none, .ref 1645, .none, 0⟩), ⟨[]⟩⟩
def o1647 (P : Params) : Obj := ⟨.type "tuple", none, (.seq ⟨[]⟩ 0), ⟨[]⟩⟩
def o1648 (P : Params) : Obj := ⟨.none, none, (.fields ⟨[]⟩), ⟨[]⟩⟩
def o1649 (P : Params) : Obj := ⟨.type "tuple", none, (.seq ⟨[.str "office" 2614, .str "words" 2615]⟩ 0), ⟨[]⟩⟩
def o1650 (P : Params) : Obj := ⟨.type "tuple", none, (.seq ⟨[]⟩ 0), ⟨[]⟩⟩
def o1651 (P : Params) : Obj := ⟨.none, none, (.func ⟨"undone", "undone", dArgs (top 241), .stmts (dBody (top 241)), dScope (top 241), 0, [], .none, .none, .none, .none, none, .none, .none, 0⟩), ⟨[]⟩⟩
def o1652 (P : Params) : Obj := ⟨.type "code", none, (.fields ⟨[.str "undone" 2611, .str "undone" 2612, .str "/claim/cut.py" 2613, .int 1142 0, .int 2 0, .int 0 0, .int 0 0, .int 3 0, .ref 1647, .bool true, .int 181 0, .ref 1648, .none, .ref 1649, .ref 1650, .ref 1651, .int 2616 0, .int 1142 0, .str "/claim/cut.py" 2617]⟩), ⟨[]⟩⟩
def o1653 (P : Params) : Obj := ⟨.type "function", none, (.func ⟨"undone", "undone", dArgs (top 241), .stmts (dBody (top 241)), dScope (top 241), 3, [], .none, .none, .none, .str "rulewardens.console" 2508, none, .ref 1652, .none, 0⟩), ⟨[]⟩⟩
def o1654 (P : Params) : Obj := ⟨.type "tuple", none, (.seq ⟨[]⟩ 0), ⟨[]⟩⟩
def o1655 (P : Params) : Obj := ⟨.none, none, (.fields ⟨[]⟩), ⟨[]⟩⟩
def o1656 (P : Params) : Obj := ⟨.type "tuple", none, (.seq ⟨[.str "office" 2622, .str "words" 2623]⟩ 0), ⟨[]⟩⟩
def o1657 (P : Params) : Obj := ⟨.type "tuple", none, (.seq ⟨[]⟩ 0), ⟨[]⟩⟩
def o1658 (P : Params) : Obj := ⟨.none, none, (.func ⟨"made_again", "made_again", dArgs (top 242), .stmts (dBody (top 242)), dScope (top 242), 0, [], .none, .none, .none, .none, none, .none, .none, 0⟩), ⟨[]⟩⟩
def o1659 (P : Params) : Obj := ⟨.type "code", none, (.fields ⟨[.str "made_again" 2619, .str "made_again" 2620, .str "/claim/cut.py" 2621, .int 1145 0, .int 2 0, .int 0 0, .int 0 0, .int 3 0, .ref 1654, .bool true, .int 181 0, .ref 1655, .none, .ref 1656, .ref 1657, .ref 1658, .int 2624 0, .int 1145 0, .str "/claim/cut.py" 2625]⟩), ⟨[]⟩⟩
def o1660 (P : Params) : Obj := ⟨.type "function", none, (.func ⟨"made_again", "made_again", dArgs (top 242), .stmts (dBody (top 242)), dScope (top 242), 3, [], .none, .none, .none, .str "rulewardens.console" 2508, none, .ref 1659, .none, 0⟩), ⟨[]⟩⟩
def o1661 (P : Params) : Obj := ⟨.type "tuple", none, (.seq ⟨[]⟩ 0), ⟨[]⟩⟩
def o1662 (P : Params) : Obj := ⟨.none, none, (.fields ⟨[]⟩), ⟨[]⟩⟩
def o1663 (P : Params) : Obj := ⟨.type "tuple", none, (.seq ⟨[.str "office" 2630, .str "words" 2631]⟩ 0), ⟨[]⟩⟩
def o1664 (P : Params) : Obj := ⟨.type "tuple", none, (.seq ⟨[]⟩ 0), ⟨[]⟩⟩
def o1665 (P : Params) : Obj := ⟨.none, none, (.func ⟨"names_told", "names_told", dArgs (top 243), .stmts (dBody (top 243)), dScope (top 243), 0, [], .none, .none, .none, .none, none, .none, .none, 0⟩), ⟨[]⟩⟩
def o1666 (P : Params) : Obj := ⟨.type "code", none, (.fields ⟨[.str "names_told" 2627, .str "names_told" 2628, .str "/claim/cut.py" 2629, .int 1148 0, .int 2 0, .int 0 0, .int 0 0, .int 3 0, .ref 1661, .bool true, .int 181 0, .ref 1662, .none, .ref 1663, .ref 1664, .ref 1665, .int 2632 0, .int 1148 0, .str "/claim/cut.py" 2633]⟩), ⟨[]⟩⟩
def o1667 (P : Params) : Obj := ⟨.type "function", none, (.func ⟨"names_told", "names_told", dArgs (top 243), .stmts (dBody (top 243)), dScope (top 243), 3, [], .none, .none, .none, .str "rulewardens.console" 2508, none, .ref 1666, .none, 0⟩), ⟨[]⟩⟩
def o1668 (P : Params) : Obj := ⟨.type "tuple", none, (.seq ⟨[]⟩ 0), ⟨[]⟩⟩
def o1669 (P : Params) : Obj := ⟨.none, none, (.fields ⟨[]⟩), ⟨[]⟩⟩
def o1670 (P : Params) : Obj := ⟨.type "tuple", none, (.seq ⟨[.str "office" 2638, .str "words" 2639]⟩ 0), ⟨[]⟩⟩
def o1671 (P : Params) : Obj := ⟨.type "tuple", none, (.seq ⟨[]⟩ 0), ⟨[]⟩⟩
def o1672 (P : Params) : Obj := ⟨.none, none, (.func ⟨"device_line", "device_line", dArgs (top 244), .stmts (dBody (top 244)), dScope (top 244), 0, [], .none, .none, .none, .none, none, .none, .none, 0⟩), ⟨[]⟩⟩
def o1673 (P : Params) : Obj := ⟨.type "code", none, (.fields ⟨[.str "device_line" 2635, .str "device_line" 2636, .str "/claim/cut.py" 2637, .int 1150 0, .int 2 0, .int 0 0, .int 0 0, .int 3 0, .ref 1668, .bool true, .int 181 0, .ref 1669, .none, .ref 1670, .ref 1671, .ref 1672, .int 2640 0, .int 1150 0, .str "/claim/cut.py" 2641]⟩), ⟨[]⟩⟩
def o1674 (P : Params) : Obj := ⟨.type "function", none, (.func ⟨"device_line", "device_line", dArgs (top 244), .stmts (dBody (top 244)), dScope (top 244), 3, [], .none, .none, .none, .str "rulewardens.console" 2508, none, .ref 1673, .none, 0⟩), ⟨[]⟩⟩
def o1675 (P : Params) : Obj := ⟨.type "tuple", none, (.seq ⟨[]⟩ 0), ⟨[]⟩⟩
def o1676 (P : Params) : Obj := ⟨.none, none, (.fields ⟨[]⟩), ⟨[]⟩⟩
def o1677 (P : Params) : Obj := ⟨.type "tuple", none, (.seq ⟨[.str "office" 2646, .str "words" 2647]⟩ 0), ⟨[]⟩⟩
def o1678 (P : Params) : Obj := ⟨.type "tuple", none, (.seq ⟨[]⟩ 0), ⟨[]⟩⟩
def o1679 (P : Params) : Obj := ⟨.none, none, (.func ⟨"ward_line", "ward_line", dArgs (top 245), .stmts (dBody (top 245)), dScope (top 245), 0, [], .none, .none, .none, .none, none, .none, .none, 0⟩), ⟨[]⟩⟩
def o1680 (P : Params) : Obj := ⟨.type "code", none, (.fields ⟨[.str "ward_line" 2643, .str "ward_line" 2644, .str "/claim/cut.py" 2645, .int 1152 0, .int 2 0, .int 0 0, .int 0 0, .int 3 0, .ref 1675, .bool true, .int 181 0, .ref 1676, .none, .ref 1677, .ref 1678, .ref 1679, .int 2648 0, .int 1152 0, .str "/claim/cut.py" 2649]⟩), ⟨[]⟩⟩
def o1681 (P : Params) : Obj := ⟨.type "function", none, (.func ⟨"ward_line", "ward_line", dArgs (top 245), .stmts (dBody (top 245)), dScope (top 245), 3, [], .none, .none, .none, .str "rulewardens.console" 2508, none, .ref 1680, .none, 0⟩), ⟨[]⟩⟩
def o1682 (P : Params) : Obj := ⟨.type "tuple", none, (.seq ⟨[]⟩ 0), ⟨[]⟩⟩
def o1683 (P : Params) : Obj := ⟨.none, none, (.fields ⟨[]⟩), ⟨[]⟩⟩
def o1684 (P : Params) : Obj := ⟨.type "tuple", none, (.seq ⟨[.str "office" 2654, .str "words" 2655]⟩ 0), ⟨[]⟩⟩
def o1685 (P : Params) : Obj := ⟨.type "tuple", none, (.seq ⟨[]⟩ 0), ⟨[]⟩⟩
def o1686 (P : Params) : Obj := ⟨.none, none, (.func ⟨"face_told", "face_told", dArgs (top 246), .stmts (dBody (top 246)), dScope (top 246), 0, [], .none, .none, .none, .none, none, .none, .none, 0⟩), ⟨[]⟩⟩
def o1687 (P : Params) : Obj := ⟨.type "code", none, (.fields ⟨[.str "face_told" 2651, .str "face_told" 2652, .str "/claim/cut.py" 2653, .int 1154 0, .int 2 0, .int 0 0, .int 0 0, .int 3 0, .ref 1682, .bool true, .int 181 0, .ref 1683, .none, .ref 1684, .ref 1685, .ref 1686, .int 2656 0, .int 1154 0, .str "/claim/cut.py" 2657]⟩), ⟨[]⟩⟩
def o1688 (P : Params) : Obj := ⟨.type "function", none, (.func ⟨"face_told", "face_told", dArgs (top 246), .stmts (dBody (top 246)), dScope (top 246), 3, [], .none, .none, .none, .str "rulewardens.console" 2508, none, .ref 1687, .none, 0⟩), ⟨[]⟩⟩
def o1689 (P : Params) : Obj := ⟨.type "tuple", none, (.seq ⟨[]⟩ 0), ⟨[]⟩⟩
def o1690 (P : Params) : Obj := ⟨.none, none, (.fields ⟨[]⟩), ⟨[]⟩⟩
def o1691 (P : Params) : Obj := ⟨.none, none, (.func ⟨"log_told", "log_told", dArgs (top 247), .stmts (dBody (top 247)), dScope (top 247), 0, [], .none, .none, .none, .none, none, .none, .none, 0⟩), ⟨[]⟩⟩
def o1692 (P : Params) : Obj := ⟨.type "code", none, (.fields ⟨[.str "log_told" 2659, .str "log_told" 2660, .str "/claim/cut.py" 2661, .int 1156 0, .int 2 0, .int 0 0, .int 0 0, .int 3 0, .ref 1689, .bool true, .int 181 0, .ref 1690, .none, .none, .none, .ref 1691, .int 2662 0, .int 1156 0, .str "/claim/cut.py" 2663]⟩), ⟨[]⟩⟩
def o1693 (P : Params) : Obj := ⟨.type "function", none, (.func ⟨"log_told", "log_told", dArgs (top 247), .stmts (dBody (top 247)), dScope (top 247), 3, [], .none, .none, .none, .str "rulewardens.console" 2508, none, .ref 1692, .none, 0⟩), ⟨[]⟩⟩
def o1694 (P : Params) : Obj := ⟨.type "tuple", none, (.seq ⟨[]⟩ 0), ⟨[]⟩⟩
def o1695 (P : Params) : Obj := ⟨.none, none, (.fields ⟨[]⟩), ⟨[]⟩⟩
def o1696 (P : Params) : Obj := ⟨.none, none, (.func ⟨"lot_told", "lot_told", dArgs (top 248), .stmts (dBody (top 248)), dScope (top 248), 0, [], .none, .none, .none, .none, none, .none, .none, 0⟩), ⟨[]⟩⟩
def o1697 (P : Params) : Obj := ⟨.type "code", none, (.fields ⟨[.str "lot_told" 2665, .str "lot_told" 2666, .str "/claim/cut.py" 2667, .int 1158 0, .int 2 0, .int 0 0, .int 0 0, .int 3 0, .ref 1694, .bool true, .int 181 0, .ref 1695, .none, .none, .none, .ref 1696, .int 2668 0, .int 1158 0, .str "/claim/cut.py" 2669]⟩), ⟨[]⟩⟩
def o1698 (P : Params) : Obj := ⟨.type "function", none, (.func ⟨"lot_told", "lot_told", dArgs (top 248), .stmts (dBody (top 248)), dScope (top 248), 3, [], .none, .none, .none, .str "rulewardens.console" 2508, none, .ref 1697, .none, 0⟩), ⟨[]⟩⟩
def o1699 (P : Params) : Obj := ⟨.type "tuple", none, (.seq ⟨[]⟩ 0), ⟨[]⟩⟩
def o1700 (P : Params) : Obj := ⟨.none, none, (.fields ⟨[]⟩), ⟨[]⟩⟩
def o1701 (P : Params) : Obj := ⟨.type "tuple", none, (.seq ⟨[.str "office" 2674, .str "words" 2675, .str "found" 2676]⟩ 0), ⟨[]⟩⟩
def o1702 (P : Params) : Obj := ⟨.type "tuple", none, (.seq ⟨[]⟩ 0), ⟨[]⟩⟩
def o1703 (P : Params) : Obj := ⟨.none, none, (.func ⟨"people_told", "people_told", dArgs (top 249), .stmts (dBody (top 249)), dScope (top 249), 0, [], .none, .none, .none, .none, none, .none, .none, 0⟩), ⟨[]⟩⟩
def o1704 (P : Params) : Obj := ⟨.type "code", none, (.fields ⟨[.str "people_told" 2671, .str "people_told" 2672, .str "/claim/cut.py" 2673, .int 1160 0, .int 2 0, .int 0 0, .int 0 0, .int 3 0, .ref 1699, .bool true, .int 181 0, .ref 1700, .none, .ref 1701, .ref 1702, .ref 1703, .int 2677 0, .int 1160 0, .str "/claim/cut.py" 2678]⟩), ⟨[]⟩⟩
def o1705 (P : Params) : Obj := ⟨.type "function", none, (.func ⟨"people_told", "people_told", dArgs (top 249), .stmts (dBody (top 249)), dScope (top 249), 3, [], .none, .none, .none, .str "rulewardens.console" 2508, none, .ref 1704, .none, 0⟩), ⟨[]⟩⟩
def o1706 (P : Params) : Obj := ⟨.type "tuple", none, (.seq ⟨[]⟩ 0), ⟨[]⟩⟩
def o1707 (P : Params) : Obj := ⟨.none, none, (.fields ⟨[]⟩), ⟨[]⟩⟩
def o1708 (P : Params) : Obj := ⟨.type "tuple", none, (.seq ⟨[.str "office" 2683, .str "words" 2684, .str "harms" 2685]⟩ 0), ⟨[]⟩⟩
def o1709 (P : Params) : Obj := ⟨.type "tuple", none, (.seq ⟨[]⟩ 0), ⟨[]⟩⟩
def o1710 (P : Params) : Obj := ⟨.none, none, (.func ⟨"keeps_told", "keeps_told", dArgs (top 250), .stmts (dBody (top 250)), dScope (top 250), 0, [], .none, .none, .none, .none, none, .none, .none, 0⟩), ⟨[]⟩⟩
def o1711 (P : Params) : Obj := ⟨.type "code", none, (.fields ⟨[.str "keeps_told" 2680, .str "keeps_told" 2681, .str "/claim/cut.py" 2682, .int 1163 0, .int 2 0, .int 0 0, .int 0 0, .int 3 0, .ref 1706, .bool true, .int 181 0, .ref 1707, .none, .ref 1708, .ref 1709, .ref 1710, .int 2686 0, .int 1163 0, .str "/claim/cut.py" 2687]⟩), ⟨[]⟩⟩
def o1712 (P : Params) : Obj := ⟨.type "function", none, (.func ⟨"keeps_told", "keeps_told", dArgs (top 250), .stmts (dBody (top 250)), dScope (top 250), 3, [], .none, .none, .none, .str "rulewardens.console" 2508, none, .ref 1711, .none, 0⟩), ⟨[]⟩⟩
def o1713 (P : Params) : Obj := ⟨.type "tuple", none, (.seq ⟨[]⟩ 0), ⟨[]⟩⟩
def o1714 (P : Params) : Obj := ⟨.none, none, (.fields ⟨[]⟩), ⟨[]⟩⟩
def o1715 (P : Params) : Obj := ⟨.type "tuple", none, (.seq ⟨[.str "office" 2692, .str "words" 2693, .str "ward" 2694, .str "harms" 2695]⟩ 0), ⟨[]⟩⟩
def o1716 (P : Params) : Obj := ⟨.type "tuple", none, (.seq ⟨[]⟩ 0), ⟨[]⟩⟩
def o1717 (P : Params) : Obj := ⟨.none, none, (.func ⟨"can_told", "can_told", dArgs (top 251), .stmts (dBody (top 251)), dScope (top 251), 0, [], .none, .none, .none, .none, none, .none, .none, 0⟩), ⟨[]⟩⟩
def o1718 (P : Params) : Obj := ⟨.type "code", none, (.fields ⟨[.str "can_told" 2689, .str "can_told" 2690, .str "/claim/cut.py" 2691, .int 1166 0, .int 2 0, .int 0 0, .int 0 0, .int 3 0, .ref 1713, .bool true, .int 181 0, .ref 1714, .none, .ref 1715, .ref 1716, .ref 1717, .int 2696 0, .int 1166 0, .str "/claim/cut.py" 2697]⟩), ⟨[]⟩⟩
def o1719 (P : Params) : Obj := ⟨.type "function", none, (.func ⟨"can_told", "can_told", dArgs (top 251), .stmts (dBody (top 251)), dScope (top 251), 3, [], .none, .none, .none, .str "rulewardens.console" 2508, none, .ref 1718, .none, 0⟩), ⟨[]⟩⟩
def o1720 (P : Params) : Obj := ⟨.type "tuple", none, (.seq ⟨[]⟩ 0), ⟨[]⟩⟩
def o1721 (P : Params) : Obj := ⟨.none, none, (.fields ⟨[]⟩), ⟨[]⟩⟩
def o1722 (P : Params) : Obj := ⟨.type "tuple", none, (.seq ⟨[.str "office" 2702, .str "words" 2703, .str "ward" 2704, .str "harms" 2705]⟩ 0), ⟨[]⟩⟩
def o1723 (P : Params) : Obj := ⟨.type "tuple", none, (.seq ⟨[]⟩ 0), ⟨[]⟩⟩
def o1724 (P : Params) : Obj := ⟨.none, none, (.func ⟨"rounds_told_of", "rounds_told_of", dArgs (top 252), .stmts (dBody (top 252)), dScope (top 252), 0, [], .none, .none, .none, .none, none, .none, .none, 0⟩), ⟨[]⟩⟩
def o1725 (P : Params) : Obj := ⟨.type "code", none, (.fields ⟨[.str "rounds_told_of" 2699, .str "rounds_told_of" 2700, .str "/claim/cut.py" 2701, .int 1169 0, .int 2 0, .int 0 0, .int 0 0, .int 3 0, .ref 1720, .bool true, .int 181 0, .ref 1721, .none, .ref 1722, .ref 1723, .ref 1724, .int 2706 0, .int 1169 0, .str "/claim/cut.py" 2707]⟩), ⟨[]⟩⟩
def o1726 (P : Params) : Obj := ⟨.type "function", none, (.func ⟨"rounds_told_of", "rounds_told_of", dArgs (top 252), .stmts (dBody (top 252)), dScope (top 252), 3, [], .none, .none, .none, .str "rulewardens.console" 2508, none, .ref 1725, .none, 0⟩), ⟨[]⟩⟩
def o1727 (P : Params) : Obj := ⟨.type "tuple", none, (.seq ⟨[]⟩ 0), ⟨[]⟩⟩
def o1728 (P : Params) : Obj := ⟨.none, none, (.fields ⟨[]⟩), ⟨[]⟩⟩
def o1729 (P : Params) : Obj := ⟨.type "tuple", none, (.seq ⟨[.str "office" 2712, .str "words" 2713, .str "ward" 2714, .str "harms" 2715]⟩ 0), ⟨[]⟩⟩
def o1730 (P : Params) : Obj := ⟨.type "tuple", none, (.seq ⟨[]⟩ 0), ⟨[]⟩⟩
def o1731 (P : Params) : Obj := ⟨.none, none, (.func ⟨"gap_told_of", "gap_told_of", dArgs (top 253), .stmts (dBody (top 253)), dScope (top 253), 0, [], .none, .none, .none, .none, none, .none, .none, 0⟩), ⟨[]⟩⟩
def o1732 (P : Params) : Obj := ⟨.type "code", none, (.fields ⟨[.str "gap_told_of" 2709, .str "gap_told_of" 2710, .str "/claim/cut.py" 2711, .int 1172 0, .int 2 0, .int 0 0, .int 0 0, .int 3 0, .ref 1727, .bool true, .int 181 0, .ref 1728, .none, .ref 1729, .ref 1730, .ref 1731, .int 2716 0, .int 1172 0, .str "/claim/cut.py" 2717]⟩), ⟨[]⟩⟩
def o1733 (P : Params) : Obj := ⟨.type "function", none, (.func ⟨"gap_told_of", "gap_told_of", dArgs (top 253), .stmts (dBody (top 253)), dScope (top 253), 3, [], .none, .none, .none, .str "rulewardens.console" 2508, none, .ref 1732, .none, 0⟩), ⟨[]⟩⟩
def o1734 (P : Params) : Obj := ⟨.type "tuple", none, (.seq ⟨[]⟩ 0), ⟨[]⟩⟩
def o1735 (P : Params) : Obj := ⟨.none, none, (.fields ⟨[]⟩), ⟨[]⟩⟩
def o1736 (P : Params) : Obj := ⟨.none, none, (.func ⟨"ears_told_of", "ears_told_of", dArgs (top 254), .stmts (dBody (top 254)), dScope (top 254), 0, [], .none, .none, .none, .none, none, .none, .none, 0⟩), ⟨[]⟩⟩
def o1737 (P : Params) : Obj := ⟨.type "code", none, (.fields ⟨[.str "ears_told_of" 2719, .str "ears_told_of" 2720, .str "/claim/cut.py" 2721, .int 1175 0, .int 2 0, .int 0 0, .int 0 0, .int 3 0, .ref 1734, .bool true, .int 181 0, .ref 1735, .none, .none, .none, .ref 1736, .int 2722 0, .int 1175 0, .str "/claim/cut.py" 2723]⟩), ⟨[]⟩⟩
def o1738 (P : Params) : Obj := ⟨.type "function", none, (.func ⟨"ears_told_of", "ears_told_of", dArgs (top 254), .stmts (dBody (top 254)), dScope (top 254), 3, [], .none, .none, .none, .str "rulewardens.console" 2508, none, .ref 1737, .none, 0⟩), ⟨[]⟩⟩
def o1739 (P : Params) : Obj := ⟨.type "tuple", none, (.seq ⟨[]⟩ 0), ⟨[]⟩⟩
def o1740 (P : Params) : Obj := ⟨.none, none, (.fields ⟨[]⟩), ⟨[]⟩⟩
def o1741 (P : Params) : Obj := ⟨.none, none, (.func ⟨"bars_told", "bars_told", dArgs (top 255), .stmts (dBody (top 255)), dScope (top 255), 0, [], .none, .none, .none, .none, none, .none, .none, 0⟩), ⟨[]⟩⟩
def o1742 (P : Params) : Obj := ⟨.type "code", none, (.fields ⟨[.str "bars_told" 2725, .str "bars_told" 2726, .str "/claim/cut.py" 2727, .int 1178 0, .int 2 0, .int 0 0, .int 0 0, .int 3 0, .ref 1739, .bool true, .int 181 0, .ref 1740, .none, .none, .none, .ref 1741, .int 2728 0, .int 1178 0, .str "/claim/cut.py" 2729]⟩), ⟨[]⟩⟩
def o1743 (P : Params) : Obj := ⟨.type "function", none, (.func ⟨"bars_told", "bars_told", dArgs (top 255), .stmts (dBody (top 255)), dScope (top 255), 3, [], .none, .none, .none, .str "rulewardens.console" 2508, none, .ref 1742, .none, 0⟩), ⟨[]⟩⟩
def o1744 (P : Params) : Obj := ⟨.type "tuple", none, (.seq ⟨[]⟩ 0), ⟨[]⟩⟩
def o1745 (P : Params) : Obj := ⟨.none, none, (.fields ⟨[]⟩), ⟨[]⟩⟩
def o1746 (P : Params) : Obj := ⟨.type "tuple", none, (.seq ⟨[.str "office" 2734, .str "words" 2735, .str "ward" 2736, .str "letters" 2737, .str "run" 2738]⟩ 0), ⟨[]⟩⟩
def o1747 (P : Params) : Obj := ⟨.type "tuple", none, (.seq ⟨[]⟩ 0), ⟨[]⟩⟩
def o1748 (P : Params) : Obj := ⟨.none, none, (.func ⟨"learned_told", "learned_told", dArgs (top 256), .stmts (dBody (top 256)), dScope (top 256), 0, [], .none, .none, .none, .none, none, .none, .none, 0⟩), ⟨[]⟩⟩
def o1749 (P : Params) : Obj := ⟨.type "code", none, (.fields ⟨[.str "learned_told" 2731, .str "learned_told" 2732, .str "/claim/cut.py" 2733, .int 1181 0, .int 2 0, .int 0 0, .int 0 0, .int 3 0, .ref 1744, .bool true, .int 181 0, .ref 1745, .none, .ref 1746, .ref 1747, .ref 1748, .int 2739 0, .int 1181 0, .str "/claim/cut.py" 2740]⟩), ⟨[]⟩⟩
def o1750 (P : Params) : Obj := ⟨.type "function", none, (.func ⟨"learned_told", "learned_told", dArgs (top 256), .stmts (dBody (top 256)), dScope (top 256), 3, [], .none, .none, .none, .str "rulewardens.console" 2508, none, .ref 1749, .none, 0⟩), ⟨[]⟩⟩
def o1751 (P : Params) : Obj := ⟨.type "dict", none, (.dict ⟨[⟨hs P "open", .str "open" 2742, .ref 1618⟩, ⟨hs P "close", .str "close" 2744, .ref 1625⟩, ⟨hs P "renew", .str "renew" 2746, .ref 1632⟩, ⟨hs P "replace", .str "replace" 2748, .ref 1639⟩, ⟨hs P "hear", .str "hear" 2750, .ref 1646⟩, ⟨hs P "undo", .str "undo" 2752, .ref 1653⟩, ⟨hs P "redo", .str "redo" 2754, .ref 1660⟩, ⟨hs P "wards", .str "wards" 2756, .ref 1667⟩, ⟨hs P "device", .str "device" 2758, .ref 1674⟩, ⟨hs P "ward", .str "ward" 2760, .ref 1681⟩, ⟨hs P "face", .str "face" 2762, .ref 1688⟩, ⟨hs P "log", .str "log" 2764, .ref 1693⟩, ⟨hs P "lot", .str "lot" 2766, .ref 1698⟩, ⟨hs P "people", .str "people" 2768, .ref 1705⟩, ⟨hs P "keeps", .str "keeps" 2770, .ref 1712⟩, ⟨hs P "can", .str "can" 2772, .ref 1719⟩, ⟨hs P "sure", .str "sure" 2774, .ref 1726⟩, ⟨hs P "gap", .str "gap" 2776, .ref 1733⟩, ⟨hs P "ears", .str "ears" 2777, .ref 1738⟩, ⟨hs P "bars", .str "bars" 2778, .ref 1743⟩, ⟨hs P "learn", .str "learn" 2779, .ref 1750⟩]⟩ 21), ⟨[]⟩⟩
def o1752 (P : Params) : Obj := ⟨.type "dict", none, (.dict ⟨[⟨hs P "gap", .str "gap" 2776, .ref 1733⟩, ⟨hs P "ears", .str "ears" 2777, .ref 1738⟩, ⟨hs P "bars", .str "bars" 2778, .ref 1743⟩, ⟨hs P "learn", .str "learn" 2779, .ref 1750⟩]⟩ 4), ⟨[]⟩⟩
def o1753 (P : Params) : Obj := ⟨.type "tuple", none, (.seq ⟨[]⟩ 0), ⟨[]⟩⟩
def o1754 (P : Params) : Obj := ⟨.type "builtin_function_or_method", none, (.fields ⟨[.builtin "type.__prepare__", .type "type"]⟩), ⟨[]⟩⟩
def o1755 (P : Params) : Obj := ⟨.type "dict", none, (.dict ⟨[⟨hs P "__module__", .str "__module__" 2792, .str "rulewardens.console" 2508⟩, ⟨hs P "__qualname__", .str "__qualname__" 2794, .str "Console" 2793⟩, ⟨hs P "__firstlineno__", .str "__firstlineno__" 2796, .int 1188 2795⟩, ⟨hs P "__init__", .str "__init__" 2803, .ref 1766⟩, ⟨hs P "office", .str "office" 2811, .ref 1774⟩, ⟨hs P "say", .str "say" 2820, .ref 1781⟩, ⟨hs P "__static_attributes__", .str "__static_attributes__" 2822, .ref 1782⟩]⟩ 7), ⟨[]⟩⟩
def o1756 (P : Params) : Obj := ⟨.type "tuple", none, (.seq ⟨[]⟩ 0), ⟨[]⟩⟩
def o1757 (P : Params) : Obj := ⟨.none, none, (.fields ⟨[.int 1190 0, .int 4 0, .ref 1765, .int 1194 0, .int 4 0, .ref 1772, .int 1197 0, .int 4 0, .ref 1780]⟩), ⟨[]⟩⟩
def o1758 (P : Params) : Obj := ⟨.type "code", none, (.fields ⟨[.str "Console" 2787, .str "Console" 2788, .str "/claim/cut.py" 2789, .int 1188 0, .int 0 0, .int 0 0, .int 0 0, .int 0 0, .ref 1756, .bool false, .int 181 0, .ref 1757, .none, .none, .none, .none, .int 2790 0, .int 1188 0, .str "/claim/cut.py" 2791]⟩), ⟨[]⟩⟩
def o1759 (P : Params) : Obj := ⟨.type "frame", none, .plain, ⟨[(some (.ref 1758)), (some (.ref 3)), (some (.ref 1755)), none, (some (.str "rulewardens.console" 2508)), none, (some (.ref 0))]⟩⟩
def o1760 (P : Params) : Obj := ⟨.type "tuple", none, (.seq ⟨[]⟩ 0), ⟨[]⟩⟩
def o1761 (P : Params) : Obj := ⟨.none, none, (.fields ⟨[]⟩), ⟨[]⟩⟩
def o1762 (P : Params) : Obj := ⟨.type "tuple", none, (.seq ⟨[.str "self" 2800]⟩ 0), ⟨[]⟩⟩
def o1763 (P : Params) : Obj := ⟨.type "tuple", none, (.seq ⟨[]⟩ 0), ⟨[]⟩⟩
def o1764 (P : Params) : Obj := ⟨.none, none, (.func ⟨"__init__", "Console.__init__", dArgs (inC (top 258) 0), .stmts (dBody (inC (top 258) 0)), dScope (inC (top 258) 0), 0, [], .none, .none, .none, .none, none, .none, .none, 0⟩), ⟨[]⟩⟩
def o1765 (P : Params) : Obj := ⟨.type "code", none, (.fields ⟨[.str "__init__" 2797, .str "Console.__init__" 2798, .str "/claim/cut.py" 2799, .int 1190 0, .int 1 0, .int 0 0, .int 0 0, .int 3 0, .ref 1760, .bool true, .int 181 0, .ref 1761, .none, .ref 1762, .ref 1763, .ref 1764, .int 2801 0, .int 1190 0, .str "/claim/cut.py" 2802]⟩), ⟨[]⟩⟩
def o1766 (P : Params) : Obj := ⟨.type "function", none, (.func ⟨"__init__", "Console.__init__", dArgs (inC (top 258) 0), .stmts (dBody (inC (top 258) 0)), dScope (inC (top 258) 0), 3, [], .none, .none, .none, .str "rulewardens.console" 2508, none, .ref 1765, .none, 0⟩), ⟨[]⟩⟩
def o1767 (P : Params) : Obj := ⟨.type "tuple", none, (.seq ⟨[]⟩ 0), ⟨[]⟩⟩
def o1768 (P : Params) : Obj := ⟨.none, none, (.fields ⟨[]⟩), ⟨[]⟩⟩
def o1769 (P : Params) : Obj := ⟨.type "tuple", none, (.seq ⟨[.str "self" 2807]⟩ 0), ⟨[]⟩⟩
def o1770 (P : Params) : Obj := ⟨.type "tuple", none, (.seq ⟨[]⟩ 0), ⟨[]⟩⟩
def o1771 (P : Params) : Obj := ⟨.none, none, (.func ⟨"office", "Console.office", dArgs (inC (top 258) 1), .stmts (dBody (inC (top 258) 1)), dScope (inC (top 258) 1), 0, [], .none, .none, .none, .none, none, .none, .none, 0⟩), ⟨[]⟩⟩
def o1772 (P : Params) : Obj := ⟨.type "code", none, (.fields ⟨[.str "office" 2804, .str "Console.office" 2805, .str "/claim/cut.py" 2806, .int 1193 0, .int 1 0, .int 0 0, .int 0 0, .int 3 0, .ref 1767, .bool true, .int 181 0, .ref 1768, .none, .ref 1769, .ref 1770, .ref 1771, .int 2808 0, .int 1193 0, .str "/claim/cut.py" 2809]⟩), ⟨[]⟩⟩
def o1773 (P : Params) : Obj := ⟨.type "function", none, (.func ⟨"office", "Console.office", dArgs (inC (top 258) 1), .stmts (dBody (inC (top 258) 1)), dScope (inC (top 258) 1), 3, [], .none, .none, .none, .str "rulewardens.console" 2508, none, .ref 1772, .none, 0⟩), ⟨[]⟩⟩
def o1774 (P : Params) : Obj := ⟨.type "property", none, (.fields ⟨[.ref 1773, .none, .none, .none, .str "office" 2811, .bool false]⟩), ⟨[]⟩⟩
def o1775 (P : Params) : Obj := ⟨.type "tuple", none, (.seq ⟨[]⟩ 0), ⟨[]⟩⟩
def o1776 (P : Params) : Obj := ⟨.none, none, (.fields ⟨[]⟩), ⟨[]⟩⟩
def o1777 (P : Params) : Obj := ⟨.type "tuple", none, (.seq ⟨[.str "self" 2815, .str "command" 2816, .str "words" 2817]⟩ 0), ⟨[]⟩⟩
def o1778 (P : Params) : Obj := ⟨.type "tuple", none, (.seq ⟨[]⟩ 0), ⟨[]⟩⟩
def o1779 (P : Params) : Obj := ⟨.none, none, (.func ⟨"say", "Console.say", dArgs (inC (top 258) 2), .stmts (dBody (inC (top 258) 2)), dScope (inC (top 258) 2), 0, [], .none, .none, .none, .none, none, .none, .none, 0⟩), ⟨[]⟩⟩
def o1780 (P : Params) : Obj := ⟨.type "code", none, (.fields ⟨[.str "say" 2812, .str "Console.say" 2813, .str "/claim/cut.py" 2814, .int 1197 0, .int 2 0, .int 0 0, .int 0 0, .int 3 0, .ref 1775, .bool true, .int 181 0, .ref 1776, .none, .ref 1777, .ref 1778, .ref 1779, .int 2818 0, .int 1197 0, .str "/claim/cut.py" 2819]⟩), ⟨[]⟩⟩
def o1781 (P : Params) : Obj := ⟨.type "function", none, (.func ⟨"say", "Console.say", dArgs (inC (top 258) 2), .stmts (dBody (inC (top 258) 2)), dScope (inC (top 258) 2), 3, [], .none, .none, .none, .str "rulewardens.console" 2508, none, .ref 1780, .none, 0⟩), ⟨[]⟩⟩
def o1782 (P : Params) : Obj := ⟨.type "tuple", none, (.seq ⟨[.str "office_kept" 2821]⟩ 0), ⟨[]⟩⟩
def o1783 (P : Params) : Obj := ⟨.type "dict", none, (.dict ⟨[⟨hs P "__module__", .str "__module__" 2792, .str "rulewardens.console" 2508⟩, ⟨hs P "__firstlineno__", .str "__firstlineno__" 2796, .int 1188 2795⟩, ⟨hs P "__init__", .str "__init__" 2803, .ref 1766⟩, ⟨hs P "office", .str "office" 2811, .ref 1774⟩, ⟨hs P "say", .str "say" 2820, .ref 1781⟩, ⟨hs P "__static_attributes__", .str "__static_attributes__" 2822, .ref 1782⟩, ⟨hs P "__dict__", .str "__dict__" 2824, .ref 1785⟩, ⟨hs P "__weakref__", .str "__weakref__" 2826, .ref 1786⟩, ⟨hs P "__doc__", .str "__doc__" 2827, .none⟩]⟩ 4), ⟨[]⟩⟩
def o1784 (P : Params) : Obj := ⟨.type "type", none, (.cls ⟨"Console", [.type "object"], [.ref 1784, .type "object"], 1783, "Console", true, [], [], false, none, false⟩), ⟨[none, none, (some (.str "Console" 2785)), (some (.str "Console" 2793)), (some (.builtin "object.__new__")), (some (.bool true))]⟩⟩
def o1785 (P : Params) : Obj := ⟨.type "getset_descriptor", none, (.fields ⟨[.str "__dict__" 2823, .ref 1784, .builtin "function.__dict__", .builtin "function.__dict__#set"]⟩), ⟨[]⟩⟩
def o1786 (P : Params) : Obj := ⟨.type "getset_descriptor", none, (.fields ⟨[.str "__weakref__" 2825, .ref 1784, .builtin "ExceptionGroup.__weakref__", .none]⟩), ⟨[]⟩⟩
def o1787 (P : Params) : Obj := ⟨.type "super", none, (.fields ⟨[.ref 1784, .ref 1784, .ref 1784]⟩), ⟨[]⟩⟩
def o1788 (P : Params) : Obj := ⟨.type "builtin_function_or_method", none, (.fields ⟨[.builtin "object.__init_subclass__", .ref 1784]⟩), ⟨[]⟩⟩
def o1789 (P : Params) : Obj := ⟨.type "tuple", none, (.seq ⟨[]⟩ 0), ⟨[]⟩⟩
def o1790 (P : Params) : Obj := ⟨.none, none, (.fields ⟨[]⟩), ⟨[]⟩⟩
def o1791 (P : Params) : Obj := ⟨.type "tuple", none, (.seq ⟨[.str "script" 2835, .str "mixed" 2836, .str "cell" 2837]⟩ 0), ⟨[]⟩⟩
def o1792 (P : Params) : Obj := ⟨.type "tuple", none, (.seq ⟨[]⟩ 0), ⟨[]⟩⟩
def o1793 (P : Params) : Obj := ⟨.none, none, (.func ⟨"_law_start", "_law_start", dArgs (top 260), .stmts (dBody (top 260)), dScope (top 260), 0, [], .none, .none, .none, .none, none, .none, .none, 0⟩), ⟨[]⟩⟩
def o1794 (P : Params) : Obj := ⟨.type "code", none, (.fields ⟨[.str "_law_start" 2832, .str "_law_start" 2833, .str "/claim/cut.py" 2834, .int 1203 0, .int 1 0, .int 0 0, .int 0 0, .int 3 0, .ref 1789, .bool true, .int 181 0, .ref 1790, .none, .ref 1791, .ref 1792, .ref 1793, .int 2838 0, .int 1203 0, .str "/claim/cut.py" 2839]⟩), ⟨[]⟩⟩
def o1795 (P : Params) : Obj := ⟨.type "function", none, (.func ⟨"_law_start", "_law_start", dArgs (top 260), .stmts (dBody (top 260)), dScope (top 260), 3, [], .none, .none, .none, .str "law_rulewardens_k72_words_of_commands" 2830, none, .ref 1794, .none, 0⟩), ⟨[]⟩⟩
def o1796 (P : Params) : Obj := ⟨.type "tuple", none, (.seq ⟨[]⟩ 0), ⟨[]⟩⟩
def o1797 (P : Params) : Obj := ⟨.none, none, (.fields ⟨[]⟩), ⟨[]⟩⟩
def o1798 (P : Params) : Obj := ⟨.type "tuple", none, (.seq ⟨[.str "deck" 2844, .str "below" 2845, .str "figure" 2846, .str "cell" 2847]⟩ 0), ⟨[]⟩⟩
def o1799 (P : Params) : Obj := ⟨.type "tuple", none, (.seq ⟨[]⟩ 0), ⟨[]⟩⟩
def o1800 (P : Params) : Obj := ⟨.none, none, (.func ⟨"_law_draw", "_law_draw", dArgs (top 261), .stmts (dBody (top 261)), dScope (top 261), 0, [], .none, .none, .none, .none, none, .none, .none, 0⟩), ⟨[]⟩⟩
def o1801 (P : Params) : Obj := ⟨.type "code", none, (.fields ⟨[.str "_law_draw" 2841, .str "_law_draw" 2842, .str "/claim/cut.py" 2843, .int 1208 0, .int 2 0, .int 0 0, .int 0 0, .int 3 0, .ref 1796, .bool true, .int 181 0, .ref 1797, .none, .ref 1798, .ref 1799, .ref 1800, .int 2848 0, .int 1208 0, .str "/claim/cut.py" 2849]⟩), ⟨[]⟩⟩
def o1802 (P : Params) : Obj := ⟨.type "function", none, (.func ⟨"_law_draw", "_law_draw", dArgs (top 261), .stmts (dBody (top 261)), dScope (top 261), 3, [], .none, .none, .none, .str "law_rulewardens_k72_words_of_commands" 2830, none, .ref 1801, .none, 0⟩), ⟨[]⟩⟩
def o1803 (P : Params) : Obj := ⟨.type "tuple", none, (.seq ⟨[]⟩ 0), ⟨[]⟩⟩
def o1804 (P : Params) : Obj := ⟨.none, none, (.fields ⟨[]⟩), ⟨[]⟩⟩
def o1805 (P : Params) : Obj := ⟨.type "tuple", none, (.seq ⟨[.str "deck" 2854, .str "some" 2855]⟩ 0), ⟨[]⟩⟩
def o1806 (P : Params) : Obj := ⟨.type "tuple", none, (.seq ⟨[]⟩ 0), ⟨[]⟩⟩
def o1807 (P : Params) : Obj := ⟨.none, none, (.func ⟨"_law_pick", "_law_pick", dArgs (top 262), .stmts (dBody (top 262)), dScope (top 262), 0, [], .none, .none, .none, .none, none, .none, .none, 0⟩), ⟨[]⟩⟩
def o1808 (P : Params) : Obj := ⟨.type "code", none, (.fields ⟨[.str "_law_pick" 2851, .str "_law_pick" 2852, .str "/claim/cut.py" 2853, .int 1220 0, .int 2 0, .int 0 0, .int 0 0, .int 3 0, .ref 1803, .bool true, .int 181 0, .ref 1804, .none, .ref 1805, .ref 1806, .ref 1807, .int 2856 0, .int 1220 0, .str "/claim/cut.py" 2857]⟩), ⟨[]⟩⟩
def o1809 (P : Params) : Obj := ⟨.type "function", none, (.func ⟨"_law_pick", "_law_pick", dArgs (top 262), .stmts (dBody (top 262)), dScope (top 262), 3, [], .none, .none, .none, .str "law_rulewardens_k72_words_of_commands" 2830, none, .ref 1808, .none, 0⟩), ⟨[]⟩⟩
def o1810 (P : Params) : Obj := ⟨.type "tuple", none, (.seq ⟨[]⟩ 0), ⟨[]⟩⟩
def o1811 (P : Params) : Obj := ⟨.none, none, (.fields ⟨[]⟩), ⟨[]⟩⟩
def o1812 (P : Params) : Obj := ⟨.type "tuple", none, (.seq ⟨[.str "deck" 2862]⟩ 0), ⟨[]⟩⟩
def o1813 (P : Params) : Obj := ⟨.type "tuple", none, (.seq ⟨[]⟩ 0), ⟨[]⟩⟩
def o1814 (P : Params) : Obj := ⟨.none, none, (.func ⟨"_law_name", "_law_name", dArgs (top 263), .stmts (dBody (top 263)), dScope (top 263), 0, [], .none, .none, .none, .none, none, .none, .none, 0⟩), ⟨[]⟩⟩
def o1815 (P : Params) : Obj := ⟨.type "code", none, (.fields ⟨[.str "_law_name" 2859, .str "_law_name" 2860, .str "/claim/cut.py" 2861, .int 1222 0, .int 1 0, .int 0 0, .int 0 0, .int 3 0, .ref 1810, .bool true, .int 181 0, .ref 1811, .none, .ref 1812, .ref 1813, .ref 1814, .int 2863 0, .int 1222 0, .str "/claim/cut.py" 2864]⟩), ⟨[]⟩⟩
def o1816 (P : Params) : Obj := ⟨.type "function", none, (.func ⟨"_law_name", "_law_name", dArgs (top 263), .stmts (dBody (top 263)), dScope (top 263), 3, [], .none, .none, .none, .str "law_rulewardens_k72_words_of_commands" 2830, none, .ref 1815, .none, 0⟩), ⟨[]⟩⟩
def o1817 (P : Params) : Obj := ⟨.type "tuple", none, (.seq ⟨[]⟩ 0), ⟨[]⟩⟩
def o1818 (P : Params) : Obj := ⟨.none, none, (.fields ⟨[]⟩), ⟨[]⟩⟩
def o1819 (P : Params) : Obj := ⟨.type "tuple", none, (.seq ⟨[.str "deck" 2869, .str "some" 2870]⟩ 0), ⟨[]⟩⟩
def o1820 (P : Params) : Obj := ⟨.type "tuple", none, (.seq ⟨[]⟩ 0), ⟨[]⟩⟩
def o1821 (P : Params) : Obj := ⟨.none, none, (.func ⟨"_law_text", "_law_text", dArgs (top 264), .stmts (dBody (top 264)), dScope (top 264), 0, [], .none, .none, .none, .none, none, .none, .none, 0⟩), ⟨[]⟩⟩
def o1822 (P : Params) : Obj := ⟨.type "code", none, (.fields ⟨[.str "_law_text" 2866, .str "_law_text" 2867, .str "/claim/cut.py" 2868, .int 1224 0, .int 1 0, .int 0 0, .int 0 0, .int 3 0, .ref 1817, .bool true, .int 181 0, .ref 1818, .none, .ref 1819, .ref 1820, .ref 1821, .int 2871 0, .int 1224 0, .str "/claim/cut.py" 2872]⟩), ⟨[]⟩⟩
def o1823 (P : Params) : Obj := ⟨.type "function", none, (.func ⟨"_law_text", "_law_text", dArgs (top 264), .stmts (dBody (top 264)), dScope (top 264), 3, [], .none, .none, .none, .str "law_rulewardens_k72_words_of_commands" 2830, none, .ref 1822, .none, 0⟩), ⟨[]⟩⟩
def o1824 (P : Params) : Obj := ⟨.type "tuple", none, (.seq ⟨[]⟩ 0), ⟨[]⟩⟩
def o1825 (P : Params) : Obj := ⟨.none, none, (.fields ⟨[]⟩), ⟨[]⟩⟩
def o1826 (P : Params) : Obj := ⟨.type "tuple", none, (.seq ⟨[.str "deck" 2877, .str "some" 2878, .str "word" 2879, .str "line" 2880]⟩ 0), ⟨[]⟩⟩
def o1827 (P : Params) : Obj := ⟨.type "tuple", none, (.seq ⟨[]⟩ 0), ⟨[]⟩⟩
def o1828 (P : Params) : Obj := ⟨.none, none, (.func ⟨"_law_line", "_law_line", dArgs (top 265), .stmts (dBody (top 265)), dScope (top 265), 0, [], .none, .none, .none, .none, none, .none, .none, 0⟩), ⟨[]⟩⟩
def o1829 (P : Params) : Obj := ⟨.type "code", none, (.fields ⟨[.str "_law_line" 2874, .str "_law_line" 2875, .str "/claim/cut.py" 2876, .int 1227 0, .int 1 0, .int 0 0, .int 0 0, .int 3 0, .ref 1824, .bool true, .int 181 0, .ref 1825, .none, .ref 1826, .ref 1827, .ref 1828, .int 2881 0, .int 1227 0, .str "/claim/cut.py" 2882]⟩), ⟨[]⟩⟩
def o1830 (P : Params) : Obj := ⟨.type "function", none, (.func ⟨"_law_line", "_law_line", dArgs (top 265), .stmts (dBody (top 265)), dScope (top 265), 3, [], .none, .none, .none, .str "law_rulewardens_k72_words_of_commands" 2830, none, .ref 1829, .none, 0⟩), ⟨[]⟩⟩
def o1831 (P : Params) : Obj := ⟨.type "tuple", none, (.seq ⟨[]⟩ 0), ⟨[]⟩⟩
def o1832 (P : Params) : Obj := ⟨.none, none, (.fields ⟨[]⟩), ⟨[]⟩⟩
def o1833 (P : Params) : Obj := ⟨.type "tuple", none, (.seq ⟨[.str "deck" 2887, .str "line" 2888, .str "words" 2889, .str "at" 2890, .str "way" 2891]⟩ 0), ⟨[]⟩⟩
def o1834 (P : Params) : Obj := ⟨.type "tuple", none, (.seq ⟨[]⟩ 0), ⟨[]⟩⟩
def o1835 (P : Params) : Obj := ⟨.none, none, (.func ⟨"_law_bent", "_law_bent", dArgs (top 266), .stmts (dBody (top 266)), dScope (top 266), 0, [], .none, .none, .none, .none, none, .none, .none, 0⟩), ⟨[]⟩⟩
def o1836 (P : Params) : Obj := ⟨.type "code", none, (.fields ⟨[.str "_law_bent" 2884, .str "_law_bent" 2885, .str "/claim/cut.py" 2886, .int 1242 0, .int 2 0, .int 0 0, .int 0 0, .int 3 0, .ref 1831, .bool true, .int 181 0, .ref 1832, .none, .ref 1833, .ref 1834, .ref 1835, .int 2892 0, .int 1242 0, .str "/claim/cut.py" 2893]⟩), ⟨[]⟩⟩
def o1837 (P : Params) : Obj := ⟨.type "function", none, (.func ⟨"_law_bent", "_law_bent", dArgs (top 266), .stmts (dBody (top 266)), dScope (top 266), 3, [], .none, .none, .none, .str "law_rulewardens_k72_words_of_commands" 2830, none, .ref 1836, .none, 0⟩), ⟨[]⟩⟩
def o1838 (P : Params) : Obj := ⟨.type "tuple", none, (.seq ⟨[]⟩ 0), ⟨[]⟩⟩
def o1839 (P : Params) : Obj := ⟨.none, none, (.fields ⟨[]⟩), ⟨[]⟩⟩
def o1840 (P : Params) : Obj := ⟨.type "tuple", none, (.seq ⟨[.str "it" 2898, .str "words" 2899, .str "word" 2900, .str "size" 2901, .str "text_now" 2902]⟩ 0), ⟨[]⟩⟩
def o1841 (P : Params) : Obj := ⟨.type "tuple", none, (.seq ⟨[]⟩ 0), ⟨[]⟩⟩
def o1842 (P : Params) : Obj := ⟨.none, none, (.func ⟨"_law_due", "_law_due", dArgs (top 267), .stmts (dBody (top 267)), dScope (top 267), 0, [], .none, .none, .none, .none, none, .none, .none, 0⟩), ⟨[]⟩⟩
def o1843 (P : Params) : Obj := ⟨.type "code", none, (.fields ⟨[.str "_law_due" 2895, .str "_law_due" 2896, .str "/claim/cut.py" 2897, .int 1260 0, .int 1 0, .int 0 0, .int 0 0, .int 3 0, .ref 1838, .bool true, .int 181 0, .ref 1839, .none, .ref 1840, .ref 1841, .ref 1842, .int 2903 0, .int 1260 0, .str "/claim/cut.py" 2904]⟩), ⟨[]⟩⟩
def o1844 (P : Params) : Obj := ⟨.type "function", none, (.func ⟨"_law_due", "_law_due", dArgs (top 267), .stmts (dBody (top 267)), dScope (top 267), 3, [], .none, .none, .none, .str "law_rulewardens_k72_words_of_commands" 2830, none, .ref 1843, .none, 0⟩), ⟨[]⟩⟩
def o1845 (P : Params) : Obj := ⟨.type "tuple", none, (.seq ⟨[]⟩ 0), ⟨[]⟩⟩
def o1846 (P : Params) : Obj := ⟨.none, none, (.fields ⟨[]⟩), ⟨[]⟩⟩
def o1847 (P : Params) : Obj := ⟨.type "tuple", none, (.seq ⟨[.str "it" 2909, .str "is_named" 2910, .str "found" 2911, .str "e" 2912]⟩ 0), ⟨[]⟩⟩
def o1848 (P : Params) : Obj := ⟨.type "tuple", none, (.seq ⟨[]⟩ 0), ⟨[]⟩⟩
def o1849 (P : Params) : Obj := ⟨.none, none, (.func ⟨"_law_heard", "_law_heard", dArgs (top 268), .stmts (dBody (top 268)), dScope (top 268), 0, [], .none, .none, .none, .none, none, .none, .none, 0⟩), ⟨[]⟩⟩
def o1850 (P : Params) : Obj := ⟨.type "code", none, (.fields ⟨[.str "_law_heard" 2906, .str "_law_heard" 2907, .str "/claim/cut.py" 2908, .int 1277 0, .int 2 0, .int 0 0, .int 0 0, .int 3 0, .ref 1845, .bool true, .int 181 0, .ref 1846, .none, .ref 1847, .ref 1848, .ref 1849, .int 2913 0, .int 1277 0, .str "/claim/cut.py" 2914]⟩), ⟨[]⟩⟩
def o1851 (P : Params) : Obj := ⟨.type "function", none, (.func ⟨"_law_heard", "_law_heard", dArgs (top 268), .stmts (dBody (top 268)), dScope (top 268), 3, [], .none, .none, .none, .str "law_rulewardens_k72_words_of_commands" 2830, none, .ref 1850, .none, 0⟩), ⟨[]⟩⟩
def o1852 (P : Params) : Obj := ⟨.type "tuple", none, (.seq ⟨[]⟩ 0), ⟨[]⟩⟩
def o1853 (P : Params) : Obj := ⟨.none, none, (.fields ⟨[]⟩), ⟨[]⟩⟩
def o1854 (P : Params) : Obj := ⟨.type "tuple", none, (.seq ⟨[.str "it" 2919, .str "found" 2920]⟩ 0), ⟨[]⟩⟩
def o1855 (P : Params) : Obj := ⟨.type "tuple", none, (.seq ⟨[]⟩ 0), ⟨[]⟩⟩
def o1856 (P : Params) : Obj := ⟨.none, none, (.func ⟨"_law_said", "_law_said", dArgs (top 269), .stmts (dBody (top 269)), dScope (top 269), 0, [], .none, .none, .none, .none, none, .none, .none, 0⟩), ⟨[]⟩⟩
def o1857 (P : Params) : Obj := ⟨.type "code", none, (.fields ⟨[.str "_law_said" 2916, .str "_law_said" 2917, .str "/claim/cut.py" 2918, .int 1284 0, .int 1 0, .int 0 0, .int 0 0, .int 3 0, .ref 1852, .bool true, .int 181 0, .ref 1853, .none, .ref 1854, .ref 1855, .ref 1856, .int 2921 0, .int 1284 0, .str "/claim/cut.py" 2922]⟩), ⟨[]⟩⟩
def o1858 (P : Params) : Obj := ⟨.type "function", none, (.func ⟨"_law_said", "_law_said", dArgs (top 269), .stmts (dBody (top 269)), dScope (top 269), 3, [], .none, .none, .none, .str "law_rulewardens_k72_words_of_commands" 2830, none, .ref 1857, .none, 0⟩), ⟨[]⟩⟩
def o1859 (P : Params) : Obj := ⟨.type "tuple", none, (.seq ⟨[]⟩ 0), ⟨[]⟩⟩
def o1860 (P : Params) : Obj := ⟨.none, none, (.fields ⟨[]⟩), ⟨[]⟩⟩
def o1861 (P : Params) : Obj := ⟨.type "tuple", none, (.seq ⟨[.str "it" 2927, .str "due" 2928, .str "was" 2929, .str "must" 2930]⟩ 0), ⟨[]⟩⟩
def o1862 (P : Params) : Obj := ⟨.type "tuple", none, (.seq ⟨[]⟩ 0), ⟨[]⟩⟩
def o1863 (P : Params) : Obj := ⟨.none, none, (.func ⟨"_law_right", "_law_right", dArgs (top 270), .stmts (dBody (top 270)), dScope (top 270), 0, [], .none, .none, .none, .none, none, .none, .none, 0⟩), ⟨[]⟩⟩
def o1864 (P : Params) : Obj := ⟨.type "code", none, (.fields ⟨[.str "_law_right" 2924, .str "_law_right" 2925, .str "/claim/cut.py" 2926, .int 1293 0, .int 1 0, .int 0 0, .int 0 0, .int 3 0, .ref 1859, .bool true, .int 181 0, .ref 1860, .none, .ref 1861, .ref 1862, .ref 1863, .int 2931 0, .int 1293 0, .str "/claim/cut.py" 2932]⟩), ⟨[]⟩⟩
def o1865 (P : Params) : Obj := ⟨.type "function", none, (.func ⟨"_law_right", "_law_right", dArgs (top 270), .stmts (dBody (top 270)), dScope (top 270), 3, [], .none, .none, .none, .str "law_rulewardens_k72_words_of_commands" 2830, none, .ref 1864, .none, 0⟩), ⟨[]⟩⟩
def o1866 (P : Params) : Obj := ⟨.type "tuple", none, (.seq ⟨[]⟩ 0), ⟨[]⟩⟩
def o1867 (P : Params) : Obj := ⟨.none, none, (.fields ⟨[]⟩), ⟨[]⟩⟩
def o1868 (P : Params) : Obj := ⟨.none, none, (.func ⟨"law", "law", dArgs (top 271), .stmts (dBody (top 271)), dScope (top 271), 0, [], .none, .none, .none, .none, none, .none, .none, 0⟩), ⟨[]⟩⟩
def o1869 (P : Params) : Obj := ⟨.type "code", none, (.fields ⟨[.str "law" 2934, .str "law" 2935, .str "/claim/cut.py" 2936, .int 1299 0, .int 1 0, .int 0 0, .int 0 0, .int 3 0, .ref 1866, .bool true, .int 181 0, .ref 1867, .none, .none, .none, .ref 1868, .int 2937 0, .int 1299 0, .str "/claim/cut.py" 2938]⟩), ⟨[]⟩⟩
def o1870 (P : Params) : Obj := ⟨.type "function", none, (.func ⟨"law", "law", dArgs (top 271), .stmts (dBody (top 271)), dScope (top 271), 3, [], .none, .none, .none, .str "law_rulewardens_k72_words_of_commands" 2830, none, .ref 1869, .none, 0⟩), ⟨[]⟩⟩
def t272_31 (P : Params) : BT := (.node (o31 P) (.node (o63 P) (.node (o127 P) (.node (o255 P) (.node (o511 P) (.node (o1023 P) .nil .nil) (.node (o1535 P) .nil .nil)) (.node (o767 P) (.node (o1279 P) .nil .nil) (.node (o1791 P) .nil .nil))) (.node (o383 P) (.node (o639 P) (.node (o1151 P) .nil .nil) (.node (o1663 P) .nil .nil)) (.node (o895 P) (.node (o1407 P) .nil .nil) .nil))) (.node (o191 P) (.node (o319 P) (.node (o575 P) (.node (o1087 P) .nil .nil) (.node (o1599 P) .nil .nil)) (.node (o831 P) (.node (o1343 P) .nil .nil) (.node (o1855 P) .nil .nil))) (.node (o447 P) (.node (o703 P) (.node (o1215 P) .nil .nil) (.node (o1727 P) .nil .nil)) (.node (o959 P) (.node (o1471 P) .nil .nil) .nil)))) (.node (o95 P) (.node (o159 P) (.node (o287 P) (.node (o543 P) (.node (o1055 P) .nil .nil) (.node (o1567 P) .nil .nil)) (.node (o799 P) (.node (o1311 P) .nil .nil) (.node (o1823 P) .nil .nil))) (.node (o415 P) (.node (o671 P) (.node (o1183 P) .nil .nil) (.node (o1695 P) .nil .nil)) (.node (o927 P) (.node (o1439 P) .nil .nil) .nil))) (.node (o223 P) (.node (o351 P) (.node (o607 P) (.node (o1119 P) .nil .nil) (.node (o1631 P) .nil .nil)) (.node (o863 P) (.node (o1375 P) .nil .nil) .nil)) (.node (o479 P) (.node (o735 P) (.node (o1247 P) .nil .nil) (.node (o1759 P) .nil .nil)) (.node (o991 P) (.node (o1503 P) .nil .nil) .nil)))))
def t272_47 (P : Params) : BT := (.node (o47 P) (.node (o79 P) (.node (o143 P) (.node (o271 P) (.node (o527 P) (.node (o1039 P) .nil .nil) (.node (o1551 P) .nil .nil)) (.node (o783 P) (.node (o1295 P) .nil .nil) (.node (o1807 P) .nil .nil))) (.node (o399 P) (.node (o655 P) (.node (o1167 P) .nil .nil) (.node (o1679 P) .nil .nil)) (.node (o911 P) (.node (o1423 P) .nil .nil) .nil))) (.node (o207 P) (.node (o335 P) (.node (o591 P) (.node (o1103 P) .nil .nil) (.node (o1615 P) .nil .nil)) (.node (o847 P) (.node (o1359 P) .nil .nil) .nil)) (.node (o463 P) (.node (o719 P) (.node (o1231 P) .nil .nil) (.node (o1743 P) .nil .nil)) (.node (o975 P) (.node (o1487 P) .nil .nil) .nil)))) (.node (o111 P) (.node (o175 P) (.node (o303 P) (.node (o559 P) (.node (o1071 P) .nil .nil) (.node (o1583 P) .nil .nil)) (.node (o815 P) (.node (o1327 P) .nil .nil) (.node (o1839 P) .nil .nil))) (.node (o431 P) (.node (o687 P) (.node (o1199 P) .nil .nil) (.node (o1711 P) .nil .nil)) (.node (o943 P) (.node (o1455 P) .nil .nil) .nil))) (.node (o239 P) (.node (o367 P) (.node (o623 P) (.node (o1135 P) .nil .nil) (.node (o1647 P) .nil .nil)) (.node (o879 P) (.node (o1391 P) .nil .nil) .nil)) (.node (o495 P) (.node (o751 P) (.node (o1263 P) .nil .nil) (.node (o1775 P) .nil .nil)) (.node (o1007 P) (.node (o1519 P) .nil .nil) .nil)))))
def t272_39 (P : Params) : BT := (.node (o39 P) (.node (o71 P) (.node (o135 P) (.node (o263 P) (.node (o519 P) (.node (o1031 P) .nil .nil) (.node (o1543 P) .nil .nil)) (.node (o775 P) (.node (o1287 P) .nil .nil) (.node (o1799 P) .nil .nil))) (.node (o391 P) (.node (o647 P) (.node (o1159 P) .nil .nil) (.node (o1671 P) .nil .nil)) (.node (o903 P) (.node (o1415 P) .nil .nil) .nil))) (.node (o199 P) (.node (o327 P) (.node (o583 P) (.node (o1095 P) .nil .nil) (.node (o1607 P) .nil .nil)) (.node (o839 P) (.node (o1351 P) .nil .nil) (.node (o1863 P) .nil .nil))) (.node (o455 P) (.node (o711 P) (.node (o1223 P) .nil .nil) (.node (o1735 P) .nil .nil)) (.node (o967 P) (.node (o1479 P) .nil .nil) .nil)))) (.node (o103 P) (.node (o167 P) (.node (o295 P) (.node (o551 P) (.node (o1063 P) .nil .nil) (.node (o1575 P) .nil .nil)) (.node (o807 P) (.node (o1319 P) .nil .nil) (.node (o1831 P) .nil .nil))) (.node (o423 P) (.node (o679 P) (.node (o1191 P) .nil .nil) (.node (o1703 P) .nil .nil)) (.node (o935 P) (.node (o1447 P) .nil .nil) .nil))) (.node (o231 P) (.node (o359 P) (.node (o615 P) (.node (o1127 P) .nil .nil) (.node (o1639 P) .nil .nil)) (.node (o871 P) (.node (o1383 P) .nil .nil) .nil)) (.node (o487 P) (.node (o743 P) (.node (o1255 P) .nil .nil) (.node (o1767 P) .nil .nil)) (.node (o999 P) (.node (o1511 P) .nil .nil) .nil)))))
def t272_55 (P : Params) : BT := (.node (o55 P) (.node (o87 P) (.node (o151 P) (.node (o279 P) (.node (o535 P) (.node (o1047 P) .nil .nil) (.node (o1559 P) .nil .nil)) (.node (o791 P) (.node (o1303 P) .nil .nil) (.node (o1815 P) .nil .nil))) (.node (o407 P) (.node (o663 P) (.node (o1175 P) .nil .nil) (.node (o1687 P) .nil .nil)) (.node (o919 P) (.node (o1431 P) .nil .nil) .nil))) (.node (o215 P) (.node (o343 P) (.node (o599 P) (.node (o1111 P) .nil .nil) (.node (o1623 P) .nil .nil)) (.node (o855 P) (.node (o1367 P) .nil .nil) .nil)) (.node (o471 P) (.node (o727 P) (.node (o1239 P) .nil .nil) (.node (o1751 P) .nil .nil)) (.node (o983 P) (.node (o1495 P) .nil .nil) .nil)))) (.node (o119 P) (.node (o183 P) (.node (o311 P) (.node (o567 P) (.node (o1079 P) .nil .nil) (.node (o1591 P) .nil .nil)) (.node (o823 P) (.node (o1335 P) .nil .nil) (.node (o1847 P) .nil .nil))) (.node (o439 P) (.node (o695 P) (.node (o1207 P) .nil .nil) (.node (o1719 P) .nil .nil)) (.node (o951 P) (.node (o1463 P) .nil .nil) .nil))) (.node (o247 P) (.node (o375 P) (.node (o631 P) (.node (o1143 P) .nil .nil) (.node (o1655 P) .nil .nil)) (.node (o887 P) (.node (o1399 P) .nil .nil) .nil)) (.node (o503 P) (.node (o759 P) (.node (o1271 P) .nil .nil) (.node (o1783 P) .nil .nil)) (.node (o1015 P) (.node (o1527 P) .nil .nil) .nil)))))
def t272_35 (P : Params) : BT := (.node (o35 P) (.node (o67 P) (.node (o131 P) (.node (o259 P) (.node (o515 P) (.node (o1027 P) .nil .nil) (.node (o1539 P) .nil .nil)) (.node (o771 P) (.node (o1283 P) .nil .nil) (.node (o1795 P) .nil .nil))) (.node (o387 P) (.node (o643 P) (.node (o1155 P) .nil .nil) (.node (o1667 P) .nil .nil)) (.node (o899 P) (.node (o1411 P) .nil .nil) .nil))) (.node (o195 P) (.node (o323 P) (.node (o579 P) (.node (o1091 P) .nil .nil) (.node (o1603 P) .nil .nil)) (.node (o835 P) (.node (o1347 P) .nil .nil) (.node (o1859 P) .nil .nil))) (.node (o451 P) (.node (o707 P) (.node (o1219 P) .nil .nil) (.node (o1731 P) .nil .nil)) (.node (o963 P) (.node (o1475 P) .nil .nil) .nil)))) (.node (o99 P) (.node (o163 P) (.node (o291 P) (.node (o547 P) (.node (o1059 P) .nil .nil) (.node (o1571 P) .nil .nil)) (.node (o803 P) (.node (o1315 P) .nil .nil) (.node (o1827 P) .nil .nil))) (.node (o419 P) (.node (o675 P) (.node (o1187 P) .nil .nil) (.node (o1699 P) .nil .nil)) (.node (o931 P) (.node (o1443 P) .nil .nil) .nil))) (.node (o227 P) (.node (o355 P) (.node (o611 P) (.node (o1123 P) .nil .nil) (.node (o1635 P) .nil .nil)) (.node (o867 P) (.node (o1379 P) .nil .nil) .nil)) (.node (o483 P) (.node (o739 P) (.node (o1251 P) .nil .nil) (.node (o1763 P) .nil .nil)) (.node (o995 P) (.node (o1507 P) .nil .nil) .nil)))))
def t272_51 (P : Params) : BT := (.node (o51 P) (.node (o83 P) (.node (o147 P) (.node (o275 P) (.node (o531 P) (.node (o1043 P) .nil .nil) (.node (o1555 P) .nil .nil)) (.node (o787 P) (.node (o1299 P) .nil .nil) (.node (o1811 P) .nil .nil))) (.node (o403 P) (.node (o659 P) (.node (o1171 P) .nil .nil) (.node (o1683 P) .nil .nil)) (.node (o915 P) (.node (o1427 P) .nil .nil) .nil))) (.node (o211 P) (.node (o339 P) (.node (o595 P) (.node (o1107 P) .nil .nil) (.node (o1619 P) .nil .nil)) (.node (o851 P) (.node (o1363 P) .nil .nil) .nil)) (.node (o467 P) (.node (o723 P) (.node (o1235 P) .nil .nil) (.node (o1747 P) .nil .nil)) (.node (o979 P) (.node (o1491 P) .nil .nil) .nil)))) (.node (o115 P) (.node (o179 P) (.node (o307 P) (.node (o563 P) (.node (o1075 P) .nil .nil) (.node (o1587 P) .nil .nil)) (.node (o819 P) (.node (o1331 P) .nil .nil) (.node (o1843 P) .nil .nil))) (.node (o435 P) (.node (o691 P) (.node (o1203 P) .nil .nil) (.node (o1715 P) .nil .nil)) (.node (o947 P) (.node (o1459 P) .nil .nil) .nil))) (.node (o243 P) (.node (o371 P) (.node (o627 P) (.node (o1139 P) .nil .nil) (.node (o1651 P) .nil .nil)) (.node (o883 P) (.node (o1395 P) .nil .nil) .nil)) (.node (o499 P) (.node (o755 P) (.node (o1267 P) .nil .nil) (.node (o1779 P) .nil .nil)) (.node (o1011 P) (.node (o1523 P) .nil .nil) .nil)))))
def t272_43 (P : Params) : BT := (.node (o43 P) (.node (o75 P) (.node (o139 P) (.node (o267 P) (.node (o523 P) (.node (o1035 P) .nil .nil) (.node (o1547 P) .nil .nil)) (.node (o779 P) (.node (o1291 P) .nil .nil) (.node (o1803 P) .nil .nil))) (.node (o395 P) (.node (o651 P) (.node (o1163 P) .nil .nil) (.node (o1675 P) .nil .nil)) (.node (o907 P) (.node (o1419 P) .nil .nil) .nil))) (.node (o203 P) (.node (o331 P) (.node (o587 P) (.node (o1099 P) .nil .nil) (.node (o1611 P) .nil .nil)) (.node (o843 P) (.node (o1355 P) .nil .nil) (.node (o1867 P) .nil .nil))) (.node (o459 P) (.node (o715 P) (.node (o1227 P) .nil .nil) (.node (o1739 P) .nil .nil)) (.node (o971 P) (.node (o1483 P) .nil .nil) .nil)))) (.node (o107 P) (.node (o171 P) (.node (o299 P) (.node (o555 P) (.node (o1067 P) .nil .nil) (.node (o1579 P) .nil .nil)) (.node (o811 P) (.node (o1323 P) .nil .nil) (.node (o1835 P) .nil .nil))) (.node (o427 P) (.node (o683 P) (.node (o1195 P) .nil .nil) (.node (o1707 P) .nil .nil)) (.node (o939 P) (.node (o1451 P) .nil .nil) .nil))) (.node (o235 P) (.node (o363 P) (.node (o619 P) (.node (o1131 P) .nil .nil) (.node (o1643 P) .nil .nil)) (.node (o875 P) (.node (o1387 P) .nil .nil) .nil)) (.node (o491 P) (.node (o747 P) (.node (o1259 P) .nil .nil) (.node (o1771 P) .nil .nil)) (.node (o1003 P) (.node (o1515 P) .nil .nil) .nil)))))
def t272_59 (P : Params) : BT := (.node (o59 P) (.node (o91 P) (.node (o155 P) (.node (o283 P) (.node (o539 P) (.node (o1051 P) .nil .nil) (.node (o1563 P) .nil .nil)) (.node (o795 P) (.node (o1307 P) .nil .nil) (.node (o1819 P) .nil .nil))) (.node (o411 P) (.node (o667 P) (.node (o1179 P) .nil .nil) (.node (o1691 P) .nil .nil)) (.node (o923 P) (.node (o1435 P) .nil .nil) .nil))) (.node (o219 P) (.node (o347 P) (.node (o603 P) (.node (o1115 P) .nil .nil) (.node (o1627 P) .nil .nil)) (.node (o859 P) (.node (o1371 P) .nil .nil) .nil)) (.node (o475 P) (.node (o731 P) (.node (o1243 P) .nil .nil) (.node (o1755 P) .nil .nil)) (.node (o987 P) (.node (o1499 P) .nil .nil) .nil)))) (.node (o123 P) (.node (o187 P) (.node (o315 P) (.node (o571 P) (.node (o1083 P) .nil .nil) (.node (o1595 P) .nil .nil)) (.node (o827 P) (.node (o1339 P) .nil .nil) (.node (o1851 P) .nil .nil))) (.node (o443 P) (.node (o699 P) (.node (o1211 P) .nil .nil) (.node (o1723 P) .nil .nil)) (.node (o955 P) (.node (o1467 P) .nil .nil) .nil))) (.node (o251 P) (.node (o379 P) (.node (o635 P) (.node (o1147 P) .nil .nil) (.node (o1659 P) .nil .nil)) (.node (o891 P) (.node (o1403 P) .nil .nil) .nil)) (.node (o507 P) (.node (o763 P) (.node (o1275 P) .nil .nil) (.node (o1787 P) .nil .nil)) (.node (o1019 P) (.node (o1531 P) .nil .nil) .nil)))))
def t272_33 (P : Params) : BT := (.node (o33 P) (.node (o65 P) (.node (o129 P) (.node (o257 P) (.node (o513 P) (.node (o1025 P) .nil .nil) (.node (o1537 P) .nil .nil)) (.node (o769 P) (.node (o1281 P) .nil .nil) (.node (o1793 P) .nil .nil))) (.node (o385 P) (.node (o641 P) (.node (o1153 P) .nil .nil) (.node (o1665 P) .nil .nil)) (.node (o897 P) (.node (o1409 P) .nil .nil) .nil))) (.node (o193 P) (.node (o321 P) (.node (o577 P) (.node (o1089 P) .nil .nil) (.node (o1601 P) .nil .nil)) (.node (o833 P) (.node (o1345 P) .nil .nil) (.node (o1857 P) .nil .nil))) (.node (o449 P) (.node (o705 P) (.node (o1217 P) .nil .nil) (.node (o1729 P) .nil .nil)) (.node (o961 P) (.node (o1473 P) .nil .nil) .nil)))) (.node (o97 P) (.node (o161 P) (.node (o289 P) (.node (o545 P) (.node (o1057 P) .nil .nil) (.node (o1569 P) .nil .nil)) (.node (o801 P) (.node (o1313 P) .nil .nil) (.node (o1825 P) .nil .nil))) (.node (o417 P) (.node (o673 P) (.node (o1185 P) .nil .nil) (.node (o1697 P) .nil .nil)) (.node (o929 P) (.node (o1441 P) .nil .nil) .nil))) (.node (o225 P) (.node (o353 P) (.node (o609 P) (.node (o1121 P) .nil .nil) (.node (o1633 P) .nil .nil)) (.node (o865 P) (.node (o1377 P) .nil .nil) .nil)) (.node (o481 P) (.node (o737 P) (.node (o1249 P) .nil .nil) (.node (o1761 P) .nil .nil)) (.node (o993 P) (.node (o1505 P) .nil .nil) .nil)))))
def t272_49 (P : Params) : BT := (.node (o49 P) (.node (o81 P) (.node (o145 P) (.node (o273 P) (.node (o529 P) (.node (o1041 P) .nil .nil) (.node (o1553 P) .nil .nil)) (.node (o785 P) (.node (o1297 P) .nil .nil) (.node (o1809 P) .nil .nil))) (.node (o401 P) (.node (o657 P) (.node (o1169 P) .nil .nil) (.node (o1681 P) .nil .nil)) (.node (o913 P) (.node (o1425 P) .nil .nil) .nil))) (.node (o209 P) (.node (o337 P) (.node (o593 P) (.node (o1105 P) .nil .nil) (.node (o1617 P) .nil .nil)) (.node (o849 P) (.node (o1361 P) .nil .nil) .nil)) (.node (o465 P) (.node (o721 P) (.node (o1233 P) .nil .nil) (.node (o1745 P) .nil .nil)) (.node (o977 P) (.node (o1489 P) .nil .nil) .nil)))) (.node (o113 P) (.node (o177 P) (.node (o305 P) (.node (o561 P) (.node (o1073 P) .nil .nil) (.node (o1585 P) .nil .nil)) (.node (o817 P) (.node (o1329 P) .nil .nil) (.node (o1841 P) .nil .nil))) (.node (o433 P) (.node (o689 P) (.node (o1201 P) .nil .nil) (.node (o1713 P) .nil .nil)) (.node (o945 P) (.node (o1457 P) .nil .nil) .nil))) (.node (o241 P) (.node (o369 P) (.node (o625 P) (.node (o1137 P) .nil .nil) (.node (o1649 P) .nil .nil)) (.node (o881 P) (.node (o1393 P) .nil .nil) .nil)) (.node (o497 P) (.node (o753 P) (.node (o1265 P) .nil .nil) (.node (o1777 P) .nil .nil)) (.node (o1009 P) (.node (o1521 P) .nil .nil) .nil)))))
def t272_41 (P : Params) : BT := (.node (o41 P) (.node (o73 P) (.node (o137 P) (.node (o265 P) (.node (o521 P) (.node (o1033 P) .nil .nil) (.node (o1545 P) .nil .nil)) (.node (o777 P) (.node (o1289 P) .nil .nil) (.node (o1801 P) .nil .nil))) (.node (o393 P) (.node (o649 P) (.node (o1161 P) .nil .nil) (.node (o1673 P) .nil .nil)) (.node (o905 P) (.node (o1417 P) .nil .nil) .nil))) (.node (o201 P) (.node (o329 P) (.node (o585 P) (.node (o1097 P) .nil .nil) (.node (o1609 P) .nil .nil)) (.node (o841 P) (.node (o1353 P) .nil .nil) (.node (o1865 P) .nil .nil))) (.node (o457 P) (.node (o713 P) (.node (o1225 P) .nil .nil) (.node (o1737 P) .nil .nil)) (.node (o969 P) (.node (o1481 P) .nil .nil) .nil)))) (.node (o105 P) (.node (o169 P) (.node (o297 P) (.node (o553 P) (.node (o1065 P) .nil .nil) (.node (o1577 P) .nil .nil)) (.node (o809 P) (.node (o1321 P) .nil .nil) (.node (o1833 P) .nil .nil))) (.node (o425 P) (.node (o681 P) (.node (o1193 P) .nil .nil) (.node (o1705 P) .nil .nil)) (.node (o937 P) (.node (o1449 P) .nil .nil) .nil))) (.node (o233 P) (.node (o361 P) (.node (o617 P) (.node (o1129 P) .nil .nil) (.node (o1641 P) .nil .nil)) (.node (o873 P) (.node (o1385 P) .nil .nil) .nil)) (.node (o489 P) (.node (o745 P) (.node (o1257 P) .nil .nil) (.node (o1769 P) .nil .nil)) (.node (o1001 P) (.node (o1513 P) .nil .nil) .nil)))))
def t272_57 (P : Params) : BT := (.node (o57 P) (.node (o89 P) (.node (o153 P) (.node (o281 P) (.node (o537 P) (.node (o1049 P) .nil .nil) (.node (o1561 P) .nil .nil)) (.node (o793 P) (.node (o1305 P) .nil .nil) (.node (o1817 P) .nil .nil))) (.node (o409 P) (.node (o665 P) (.node (o1177 P) .nil .nil) (.node (o1689 P) .nil .nil)) (.node (o921 P) (.node (o1433 P) .nil .nil) .nil))) (.node (o217 P) (.node (o345 P) (.node (o601 P) (.node (o1113 P) .nil .nil) (.node (o1625 P) .nil .nil)) (.node (o857 P) (.node (o1369 P) .nil .nil) .nil)) (.node (o473 P) (.node (o729 P) (.node (o1241 P) .nil .nil) (.node (o1753 P) .nil .nil)) (.node (o985 P) (.node (o1497 P) .nil .nil) .nil)))) (.node (o121 P) (.node (o185 P) (.node (o313 P) (.node (o569 P) (.node (o1081 P) .nil .nil) (.node (o1593 P) .nil .nil)) (.node (o825 P) (.node (o1337 P) .nil .nil) (.node (o1849 P) .nil .nil))) (.node (o441 P) (.node (o697 P) (.node (o1209 P) .nil .nil) (.node (o1721 P) .nil .nil)) (.node (o953 P) (.node (o1465 P) .nil .nil) .nil))) (.node (o249 P) (.node (o377 P) (.node (o633 P) (.node (o1145 P) .nil .nil) (.node (o1657 P) .nil .nil)) (.node (o889 P) (.node (o1401 P) .nil .nil) .nil)) (.node (o505 P) (.node (o761 P) (.node (o1273 P) .nil .nil) (.node (o1785 P) .nil .nil)) (.node (o1017 P) (.node (o1529 P) .nil .nil) .nil)))))
def t272_37 (P : Params) : BT := (.node (o37 P) (.node (o69 P) (.node (o133 P) (.node (o261 P) (.node (o517 P) (.node (o1029 P) .nil .nil) (.node (o1541 P) .nil .nil)) (.node (o773 P) (.node (o1285 P) .nil .nil) (.node (o1797 P) .nil .nil))) (.node (o389 P) (.node (o645 P) (.node (o1157 P) .nil .nil) (.node (o1669 P) .nil .nil)) (.node (o901 P) (.node (o1413 P) .nil .nil) .nil))) (.node (o197 P) (.node (o325 P) (.node (o581 P) (.node (o1093 P) .nil .nil) (.node (o1605 P) .nil .nil)) (.node (o837 P) (.node (o1349 P) .nil .nil) (.node (o1861 P) .nil .nil))) (.node (o453 P) (.node (o709 P) (.node (o1221 P) .nil .nil) (.node (o1733 P) .nil .nil)) (.node (o965 P) (.node (o1477 P) .nil .nil) .nil)))) (.node (o101 P) (.node (o165 P) (.node (o293 P) (.node (o549 P) (.node (o1061 P) .nil .nil) (.node (o1573 P) .nil .nil)) (.node (o805 P) (.node (o1317 P) .nil .nil) (.node (o1829 P) .nil .nil))) (.node (o421 P) (.node (o677 P) (.node (o1189 P) .nil .nil) (.node (o1701 P) .nil .nil)) (.node (o933 P) (.node (o1445 P) .nil .nil) .nil))) (.node (o229 P) (.node (o357 P) (.node (o613 P) (.node (o1125 P) .nil .nil) (.node (o1637 P) .nil .nil)) (.node (o869 P) (.node (o1381 P) .nil .nil) .nil)) (.node (o485 P) (.node (o741 P) (.node (o1253 P) .nil .nil) (.node (o1765 P) .nil .nil)) (.node (o997 P) (.node (o1509 P) .nil .nil) .nil)))))
def t272_53 (P : Params) : BT := (.node (o53 P) (.node (o85 P) (.node (o149 P) (.node (o277 P) (.node (o533 P) (.node (o1045 P) .nil .nil) (.node (o1557 P) .nil .nil)) (.node (o789 P) (.node (o1301 P) .nil .nil) (.node (o1813 P) .nil .nil))) (.node (o405 P) (.node (o661 P) (.node (o1173 P) .nil .nil) (.node (o1685 P) .nil .nil)) (.node (o917 P) (.node (o1429 P) .nil .nil) .nil))) (.node (o213 P) (.node (o341 P) (.node (o597 P) (.node (o1109 P) .nil .nil) (.node (o1621 P) .nil .nil)) (.node (o853 P) (.node (o1365 P) .nil .nil) .nil)) (.node (o469 P) (.node (o725 P) (.node (o1237 P) .nil .nil) (.node (o1749 P) .nil .nil)) (.node (o981 P) (.node (o1493 P) .nil .nil) .nil)))) (.node (o117 P) (.node (o181 P) (.node (o309 P) (.node (o565 P) (.node (o1077 P) .nil .nil) (.node (o1589 P) .nil .nil)) (.node (o821 P) (.node (o1333 P) .nil .nil) (.node (o1845 P) .nil .nil))) (.node (o437 P) (.node (o693 P) (.node (o1205 P) .nil .nil) (.node (o1717 P) .nil .nil)) (.node (o949 P) (.node (o1461 P) .nil .nil) .nil))) (.node (o245 P) (.node (o373 P) (.node (o629 P) (.node (o1141 P) .nil .nil) (.node (o1653 P) .nil .nil)) (.node (o885 P) (.node (o1397 P) .nil .nil) .nil)) (.node (o501 P) (.node (o757 P) (.node (o1269 P) .nil .nil) (.node (o1781 P) .nil .nil)) (.node (o1013 P) (.node (o1525 P) .nil .nil) .nil)))))
def t272_45 (P : Params) : BT := (.node (o45 P) (.node (o77 P) (.node (o141 P) (.node (o269 P) (.node (o525 P) (.node (o1037 P) .nil .nil) (.node (o1549 P) .nil .nil)) (.node (o781 P) (.node (o1293 P) .nil .nil) (.node (o1805 P) .nil .nil))) (.node (o397 P) (.node (o653 P) (.node (o1165 P) .nil .nil) (.node (o1677 P) .nil .nil)) (.node (o909 P) (.node (o1421 P) .nil .nil) .nil))) (.node (o205 P) (.node (o333 P) (.node (o589 P) (.node (o1101 P) .nil .nil) (.node (o1613 P) .nil .nil)) (.node (o845 P) (.node (o1357 P) .nil .nil) (.node (o1869 P) .nil .nil))) (.node (o461 P) (.node (o717 P) (.node (o1229 P) .nil .nil) (.node (o1741 P) .nil .nil)) (.node (o973 P) (.node (o1485 P) .nil .nil) .nil)))) (.node (o109 P) (.node (o173 P) (.node (o301 P) (.node (o557 P) (.node (o1069 P) .nil .nil) (.node (o1581 P) .nil .nil)) (.node (o813 P) (.node (o1325 P) .nil .nil) (.node (o1837 P) .nil .nil))) (.node (o429 P) (.node (o685 P) (.node (o1197 P) .nil .nil) (.node (o1709 P) .nil .nil)) (.node (o941 P) (.node (o1453 P) .nil .nil) .nil))) (.node (o237 P) (.node (o365 P) (.node (o621 P) (.node (o1133 P) .nil .nil) (.node (o1645 P) .nil .nil)) (.node (o877 P) (.node (o1389 P) .nil .nil) .nil)) (.node (o493 P) (.node (o749 P) (.node (o1261 P) .nil .nil) (.node (o1773 P) .nil .nil)) (.node (o1005 P) (.node (o1517 P) .nil .nil) .nil)))))
def t272_61 (P : Params) : BT := (.node (o61 P) (.node (o93 P) (.node (o157 P) (.node (o285 P) (.node (o541 P) (.node (o1053 P) .nil .nil) (.node (o1565 P) .nil .nil)) (.node (o797 P) (.node (o1309 P) .nil .nil) (.node (o1821 P) .nil .nil))) (.node (o413 P) (.node (o669 P) (.node (o1181 P) .nil .nil) (.node (o1693 P) .nil .nil)) (.node (o925 P) (.node (o1437 P) .nil .nil) .nil))) (.node (o221 P) (.node (o349 P) (.node (o605 P) (.node (o1117 P) .nil .nil) (.node (o1629 P) .nil .nil)) (.node (o861 P) (.node (o1373 P) .nil .nil) .nil)) (.node (o477 P) (.node (o733 P) (.node (o1245 P) .nil .nil) (.node (o1757 P) .nil .nil)) (.node (o989 P) (.node (o1501 P) .nil .nil) .nil)))) (.node (o125 P) (.node (o189 P) (.node (o317 P) (.node (o573 P) (.node (o1085 P) .nil .nil) (.node (o1597 P) .nil .nil)) (.node (o829 P) (.node (o1341 P) .nil .nil) (.node (o1853 P) .nil .nil))) (.node (o445 P) (.node (o701 P) (.node (o1213 P) .nil .nil) (.node (o1725 P) .nil .nil)) (.node (o957 P) (.node (o1469 P) .nil .nil) .nil))) (.node (o253 P) (.node (o381 P) (.node (o637 P) (.node (o1149 P) .nil .nil) (.node (o1661 P) .nil .nil)) (.node (o893 P) (.node (o1405 P) .nil .nil) .nil)) (.node (o509 P) (.node (o765 P) (.node (o1277 P) .nil .nil) (.node (o1789 P) .nil .nil)) (.node (o1021 P) (.node (o1533 P) .nil .nil) .nil)))))
def t272_32 (P : Params) : BT := (.node (o32 P) (.node (o64 P) (.node (o128 P) (.node (o256 P) (.node (o512 P) (.node (o1024 P) .nil .nil) (.node (o1536 P) .nil .nil)) (.node (o768 P) (.node (o1280 P) .nil .nil) (.node (o1792 P) .nil .nil))) (.node (o384 P) (.node (o640 P) (.node (o1152 P) .nil .nil) (.node (o1664 P) .nil .nil)) (.node (o896 P) (.node (o1408 P) .nil .nil) .nil))) (.node (o192 P) (.node (o320 P) (.node (o576 P) (.node (o1088 P) .nil .nil) (.node (o1600 P) .nil .nil)) (.node (o832 P) (.node (o1344 P) .nil .nil) (.node (o1856 P) .nil .nil))) (.node (o448 P) (.node (o704 P) (.node (o1216 P) .nil .nil) (.node (o1728 P) .nil .nil)) (.node (o960 P) (.node (o1472 P) .nil .nil) .nil)))) (.node (o96 P) (.node (o160 P) (.node (o288 P) (.node (o544 P) (.node (o1056 P) .nil .nil) (.node (o1568 P) .nil .nil)) (.node (o800 P) (.node (o1312 P) .nil .nil) (.node (o1824 P) .nil .nil))) (.node (o416 P) (.node (o672 P) (.node (o1184 P) .nil .nil) (.node (o1696 P) .nil .nil)) (.node (o928 P) (.node (o1440 P) .nil .nil) .nil))) (.node (o224 P) (.node (o352 P) (.node (o608 P) (.node (o1120 P) .nil .nil) (.node (o1632 P) .nil .nil)) (.node (o864 P) (.node (o1376 P) .nil .nil) .nil)) (.node (o480 P) (.node (o736 P) (.node (o1248 P) .nil .nil) (.node (o1760 P) .nil .nil)) (.node (o992 P) (.node (o1504 P) .nil .nil) .nil)))))
def t272_48 (P : Params) : BT := (.node (o48 P) (.node (o80 P) (.node (o144 P) (.node (o272 P) (.node (o528 P) (.node (o1040 P) .nil .nil) (.node (o1552 P) .nil .nil)) (.node (o784 P) (.node (o1296 P) .nil .nil) (.node (o1808 P) .nil .nil))) (.node (o400 P) (.node (o656 P) (.node (o1168 P) .nil .nil) (.node (o1680 P) .nil .nil)) (.node (o912 P) (.node (o1424 P) .nil .nil) .nil))) (.node (o208 P) (.node (o336 P) (.node (o592 P) (.node (o1104 P) .nil .nil) (.node (o1616 P) .nil .nil)) (.node (o848 P) (.node (o1360 P) .nil .nil) .nil)) (.node (o464 P) (.node (o720 P) (.node (o1232 P) .nil .nil) (.node (o1744 P) .nil .nil)) (.node (o976 P) (.node (o1488 P) .nil .nil) .nil)))) (.node (o112 P) (.node (o176 P) (.node (o304 P) (.node (o560 P) (.node (o1072 P) .nil .nil) (.node (o1584 P) .nil .nil)) (.node (o816 P) (.node (o1328 P) .nil .nil) (.node (o1840 P) .nil .nil))) (.node (o432 P) (.node (o688 P) (.node (o1200 P) .nil .nil) (.node (o1712 P) .nil .nil)) (.node (o944 P) (.node (o1456 P) .nil .nil) .nil))) (.node (o240 P) (.node (o368 P) (.node (o624 P) (.node (o1136 P) .nil .nil) (.node (o1648 P) .nil .nil)) (.node (o880 P) (.node (o1392 P) .nil .nil) .nil)) (.node (o496 P) (.node (o752 P) (.node (o1264 P) .nil .nil) (.node (o1776 P) .nil .nil)) (.node (o1008 P) (.node (o1520 P) .nil .nil) .nil)))))
def t272_40 (P : Params) : BT := (.node (o40 P) (.node (o72 P) (.node (o136 P) (.node (o264 P) (.node (o520 P) (.node (o1032 P) .nil .nil) (.node (o1544 P) .nil .nil)) (.node (o776 P) (.node (o1288 P) .nil .nil) (.node (o1800 P) .nil .nil))) (.node (o392 P) (.node (o648 P) (.node (o1160 P) .nil .nil) (.node (o1672 P) .nil .nil)) (.node (o904 P) (.node (o1416 P) .nil .nil) .nil))) (.node (o200 P) (.node (o328 P) (.node (o584 P) (.node (o1096 P) .nil .nil) (.node (o1608 P) .nil .nil)) (.node (o840 P) (.node (o1352 P) .nil .nil) (.node (o1864 P) .nil .nil))) (.node (o456 P) (.node (o712 P) (.node (o1224 P) .nil .nil) (.node (o1736 P) .nil .nil)) (.node (o968 P) (.node (o1480 P) .nil .nil) .nil)))) (.node (o104 P) (.node (o168 P) (.node (o296 P) (.node (o552 P) (.node (o1064 P) .nil .nil) (.node (o1576 P) .nil .nil)) (.node (o808 P) (.node (o1320 P) .nil .nil) (.node (o1832 P) .nil .nil))) (.node (o424 P) (.node (o680 P) (.node (o1192 P) .nil .nil) (.node (o1704 P) .nil .nil)) (.node (o936 P) (.node (o1448 P) .nil .nil) .nil))) (.node (o232 P) (.node (o360 P) (.node (o616 P) (.node (o1128 P) .nil .nil) (.node (o1640 P) .nil .nil)) (.node (o872 P) (.node (o1384 P) .nil .nil) .nil)) (.node (o488 P) (.node (o744 P) (.node (o1256 P) .nil .nil) (.node (o1768 P) .nil .nil)) (.node (o1000 P) (.node (o1512 P) .nil .nil) .nil)))))
def t272_56 (P : Params) : BT := (.node (o56 P) (.node (o88 P) (.node (o152 P) (.node (o280 P) (.node (o536 P) (.node (o1048 P) .nil .nil) (.node (o1560 P) .nil .nil)) (.node (o792 P) (.node (o1304 P) .nil .nil) (.node (o1816 P) .nil .nil))) (.node (o408 P) (.node (o664 P) (.node (o1176 P) .nil .nil) (.node (o1688 P) .nil .nil)) (.node (o920 P) (.node (o1432 P) .nil .nil) .nil))) (.node (o216 P) (.node (o344 P) (.node (o600 P) (.node (o1112 P) .nil .nil) (.node (o1624 P) .nil .nil)) (.node (o856 P) (.node (o1368 P) .nil .nil) .nil)) (.node (o472 P) (.node (o728 P) (.node (o1240 P) .nil .nil) (.node (o1752 P) .nil .nil)) (.node (o984 P) (.node (o1496 P) .nil .nil) .nil)))) (.node (o120 P) (.node (o184 P) (.node (o312 P) (.node (o568 P) (.node (o1080 P) .nil .nil) (.node (o1592 P) .nil .nil)) (.node (o824 P) (.node (o1336 P) .nil .nil) (.node (o1848 P) .nil .nil))) (.node (o440 P) (.node (o696 P) (.node (o1208 P) .nil .nil) (.node (o1720 P) .nil .nil)) (.node (o952 P) (.node (o1464 P) .nil .nil) .nil))) (.node (o248 P) (.node (o376 P) (.node (o632 P) (.node (o1144 P) .nil .nil) (.node (o1656 P) .nil .nil)) (.node (o888 P) (.node (o1400 P) .nil .nil) .nil)) (.node (o504 P) (.node (o760 P) (.node (o1272 P) .nil .nil) (.node (o1784 P) .nil .nil)) (.node (o1016 P) (.node (o1528 P) .nil .nil) .nil)))))
def t272_36 (P : Params) : BT := (.node (o36 P) (.node (o68 P) (.node (o132 P) (.node (o260 P) (.node (o516 P) (.node (o1028 P) .nil .nil) (.node (o1540 P) .nil .nil)) (.node (o772 P) (.node (o1284 P) .nil .nil) (.node (o1796 P) .nil .nil))) (.node (o388 P) (.node (o644 P) (.node (o1156 P) .nil .nil) (.node (o1668 P) .nil .nil)) (.node (o900 P) (.node (o1412 P) .nil .nil) .nil))) (.node (o196 P) (.node (o324 P) (.node (o580 P) (.node (o1092 P) .nil .nil) (.node (o1604 P) .nil .nil)) (.node (o836 P) (.node (o1348 P) .nil .nil) (.node (o1860 P) .nil .nil))) (.node (o452 P) (.node (o708 P) (.node (o1220 P) .nil .nil) (.node (o1732 P) .nil .nil)) (.node (o964 P) (.node (o1476 P) .nil .nil) .nil)))) (.node (o100 P) (.node (o164 P) (.node (o292 P) (.node (o548 P) (.node (o1060 P) .nil .nil) (.node (o1572 P) .nil .nil)) (.node (o804 P) (.node (o1316 P) .nil .nil) (.node (o1828 P) .nil .nil))) (.node (o420 P) (.node (o676 P) (.node (o1188 P) .nil .nil) (.node (o1700 P) .nil .nil)) (.node (o932 P) (.node (o1444 P) .nil .nil) .nil))) (.node (o228 P) (.node (o356 P) (.node (o612 P) (.node (o1124 P) .nil .nil) (.node (o1636 P) .nil .nil)) (.node (o868 P) (.node (o1380 P) .nil .nil) .nil)) (.node (o484 P) (.node (o740 P) (.node (o1252 P) .nil .nil) (.node (o1764 P) .nil .nil)) (.node (o996 P) (.node (o1508 P) .nil .nil) .nil)))))
def t272_52 (P : Params) : BT := (.node (o52 P) (.node (o84 P) (.node (o148 P) (.node (o276 P) (.node (o532 P) (.node (o1044 P) .nil .nil) (.node (o1556 P) .nil .nil)) (.node (o788 P) (.node (o1300 P) .nil .nil) (.node (o1812 P) .nil .nil))) (.node (o404 P) (.node (o660 P) (.node (o1172 P) .nil .nil) (.node (o1684 P) .nil .nil)) (.node (o916 P) (.node (o1428 P) .nil .nil) .nil))) (.node (o212 P) (.node (o340 P) (.node (o596 P) (.node (o1108 P) .nil .nil) (.node (o1620 P) .nil .nil)) (.node (o852 P) (.node (o1364 P) .nil .nil) .nil)) (.node (o468 P) (.node (o724 P) (.node (o1236 P) .nil .nil) (.node (o1748 P) .nil .nil)) (.node (o980 P) (.node (o1492 P) .nil .nil) .nil)))) (.node (o116 P) (.node (o180 P) (.node (o308 P) (.node (o564 P) (.node (o1076 P) .nil .nil) (.node (o1588 P) .nil .nil)) (.node (o820 P) (.node (o1332 P) .nil .nil) (.node (o1844 P) .nil .nil))) (.node (o436 P) (.node (o692 P) (.node (o1204 P) .nil .nil) (.node (o1716 P) .nil .nil)) (.node (o948 P) (.node (o1460 P) .nil .nil) .nil))) (.node (o244 P) (.node (o372 P) (.node (o628 P) (.node (o1140 P) .nil .nil) (.node (o1652 P) .nil .nil)) (.node (o884 P) (.node (o1396 P) .nil .nil) .nil)) (.node (o500 P) (.node (o756 P) (.node (o1268 P) .nil .nil) (.node (o1780 P) .nil .nil)) (.node (o1012 P) (.node (o1524 P) .nil .nil) .nil)))))
def t272_44 (P : Params) : BT := (.node (o44 P) (.node (o76 P) (.node (o140 P) (.node (o268 P) (.node (o524 P) (.node (o1036 P) .nil .nil) (.node (o1548 P) .nil .nil)) (.node (o780 P) (.node (o1292 P) .nil .nil) (.node (o1804 P) .nil .nil))) (.node (o396 P) (.node (o652 P) (.node (o1164 P) .nil .nil) (.node (o1676 P) .nil .nil)) (.node (o908 P) (.node (o1420 P) .nil .nil) .nil))) (.node (o204 P) (.node (o332 P) (.node (o588 P) (.node (o1100 P) .nil .nil) (.node (o1612 P) .nil .nil)) (.node (o844 P) (.node (o1356 P) .nil .nil) (.node (o1868 P) .nil .nil))) (.node (o460 P) (.node (o716 P) (.node (o1228 P) .nil .nil) (.node (o1740 P) .nil .nil)) (.node (o972 P) (.node (o1484 P) .nil .nil) .nil)))) (.node (o108 P) (.node (o172 P) (.node (o300 P) (.node (o556 P) (.node (o1068 P) .nil .nil) (.node (o1580 P) .nil .nil)) (.node (o812 P) (.node (o1324 P) .nil .nil) (.node (o1836 P) .nil .nil))) (.node (o428 P) (.node (o684 P) (.node (o1196 P) .nil .nil) (.node (o1708 P) .nil .nil)) (.node (o940 P) (.node (o1452 P) .nil .nil) .nil))) (.node (o236 P) (.node (o364 P) (.node (o620 P) (.node (o1132 P) .nil .nil) (.node (o1644 P) .nil .nil)) (.node (o876 P) (.node (o1388 P) .nil .nil) .nil)) (.node (o492 P) (.node (o748 P) (.node (o1260 P) .nil .nil) (.node (o1772 P) .nil .nil)) (.node (o1004 P) (.node (o1516 P) .nil .nil) .nil)))))
def t272_60 (P : Params) : BT := (.node (o60 P) (.node (o92 P) (.node (o156 P) (.node (o284 P) (.node (o540 P) (.node (o1052 P) .nil .nil) (.node (o1564 P) .nil .nil)) (.node (o796 P) (.node (o1308 P) .nil .nil) (.node (o1820 P) .nil .nil))) (.node (o412 P) (.node (o668 P) (.node (o1180 P) .nil .nil) (.node (o1692 P) .nil .nil)) (.node (o924 P) (.node (o1436 P) .nil .nil) .nil))) (.node (o220 P) (.node (o348 P) (.node (o604 P) (.node (o1116 P) .nil .nil) (.node (o1628 P) .nil .nil)) (.node (o860 P) (.node (o1372 P) .nil .nil) .nil)) (.node (o476 P) (.node (o732 P) (.node (o1244 P) .nil .nil) (.node (o1756 P) .nil .nil)) (.node (o988 P) (.node (o1500 P) .nil .nil) .nil)))) (.node (o124 P) (.node (o188 P) (.node (o316 P) (.node (o572 P) (.node (o1084 P) .nil .nil) (.node (o1596 P) .nil .nil)) (.node (o828 P) (.node (o1340 P) .nil .nil) (.node (o1852 P) .nil .nil))) (.node (o444 P) (.node (o700 P) (.node (o1212 P) .nil .nil) (.node (o1724 P) .nil .nil)) (.node (o956 P) (.node (o1468 P) .nil .nil) .nil))) (.node (o252 P) (.node (o380 P) (.node (o636 P) (.node (o1148 P) .nil .nil) (.node (o1660 P) .nil .nil)) (.node (o892 P) (.node (o1404 P) .nil .nil) .nil)) (.node (o508 P) (.node (o764 P) (.node (o1276 P) .nil .nil) (.node (o1788 P) .nil .nil)) (.node (o1020 P) (.node (o1532 P) .nil .nil) .nil)))))
def t272_34 (P : Params) : BT := (.node (o34 P) (.node (o66 P) (.node (o130 P) (.node (o258 P) (.node (o514 P) (.node (o1026 P) .nil .nil) (.node (o1538 P) .nil .nil)) (.node (o770 P) (.node (o1282 P) .nil .nil) (.node (o1794 P) .nil .nil))) (.node (o386 P) (.node (o642 P) (.node (o1154 P) .nil .nil) (.node (o1666 P) .nil .nil)) (.node (o898 P) (.node (o1410 P) .nil .nil) .nil))) (.node (o194 P) (.node (o322 P) (.node (o578 P) (.node (o1090 P) .nil .nil) (.node (o1602 P) .nil .nil)) (.node (o834 P) (.node (o1346 P) .nil .nil) (.node (o1858 P) .nil .nil))) (.node (o450 P) (.node (o706 P) (.node (o1218 P) .nil .nil) (.node (o1730 P) .nil .nil)) (.node (o962 P) (.node (o1474 P) .nil .nil) .nil)))) (.node (o98 P) (.node (o162 P) (.node (o290 P) (.node (o546 P) (.node (o1058 P) .nil .nil) (.node (o1570 P) .nil .nil)) (.node (o802 P) (.node (o1314 P) .nil .nil) (.node (o1826 P) .nil .nil))) (.node (o418 P) (.node (o674 P) (.node (o1186 P) .nil .nil) (.node (o1698 P) .nil .nil)) (.node (o930 P) (.node (o1442 P) .nil .nil) .nil))) (.node (o226 P) (.node (o354 P) (.node (o610 P) (.node (o1122 P) .nil .nil) (.node (o1634 P) .nil .nil)) (.node (o866 P) (.node (o1378 P) .nil .nil) .nil)) (.node (o482 P) (.node (o738 P) (.node (o1250 P) .nil .nil) (.node (o1762 P) .nil .nil)) (.node (o994 P) (.node (o1506 P) .nil .nil) .nil)))))
def t272_50 (P : Params) : BT := (.node (o50 P) (.node (o82 P) (.node (o146 P) (.node (o274 P) (.node (o530 P) (.node (o1042 P) .nil .nil) (.node (o1554 P) .nil .nil)) (.node (o786 P) (.node (o1298 P) .nil .nil) (.node (o1810 P) .nil .nil))) (.node (o402 P) (.node (o658 P) (.node (o1170 P) .nil .nil) (.node (o1682 P) .nil .nil)) (.node (o914 P) (.node (o1426 P) .nil .nil) .nil))) (.node (o210 P) (.node (o338 P) (.node (o594 P) (.node (o1106 P) .nil .nil) (.node (o1618 P) .nil .nil)) (.node (o850 P) (.node (o1362 P) .nil .nil) .nil)) (.node (o466 P) (.node (o722 P) (.node (o1234 P) .nil .nil) (.node (o1746 P) .nil .nil)) (.node (o978 P) (.node (o1490 P) .nil .nil) .nil)))) (.node (o114 P) (.node (o178 P) (.node (o306 P) (.node (o562 P) (.node (o1074 P) .nil .nil) (.node (o1586 P) .nil .nil)) (.node (o818 P) (.node (o1330 P) .nil .nil) (.node (o1842 P) .nil .nil))) (.node (o434 P) (.node (o690 P) (.node (o1202 P) .nil .nil) (.node (o1714 P) .nil .nil)) (.node (o946 P) (.node (o1458 P) .nil .nil) .nil))) (.node (o242 P) (.node (o370 P) (.node (o626 P) (.node (o1138 P) .nil .nil) (.node (o1650 P) .nil .nil)) (.node (o882 P) (.node (o1394 P) .nil .nil) .nil)) (.node (o498 P) (.node (o754 P) (.node (o1266 P) .nil .nil) (.node (o1778 P) .nil .nil)) (.node (o1010 P) (.node (o1522 P) .nil .nil) .nil)))))
def t272_42 (P : Params) : BT := (.node (o42 P) (.node (o74 P) (.node (o138 P) (.node (o266 P) (.node (o522 P) (.node (o1034 P) .nil .nil) (.node (o1546 P) .nil .nil)) (.node (o778 P) (.node (o1290 P) .nil .nil) (.node (o1802 P) .nil .nil))) (.node (o394 P) (.node (o650 P) (.node (o1162 P) .nil .nil) (.node (o1674 P) .nil .nil)) (.node (o906 P) (.node (o1418 P) .nil .nil) .nil))) (.node (o202 P) (.node (o330 P) (.node (o586 P) (.node (o1098 P) .nil .nil) (.node (o1610 P) .nil .nil)) (.node (o842 P) (.node (o1354 P) .nil .nil) (.node (o1866 P) .nil .nil))) (.node (o458 P) (.node (o714 P) (.node (o1226 P) .nil .nil) (.node (o1738 P) .nil .nil)) (.node (o970 P) (.node (o1482 P) .nil .nil) .nil)))) (.node (o106 P) (.node (o170 P) (.node (o298 P) (.node (o554 P) (.node (o1066 P) .nil .nil) (.node (o1578 P) .nil .nil)) (.node (o810 P) (.node (o1322 P) .nil .nil) (.node (o1834 P) .nil .nil))) (.node (o426 P) (.node (o682 P) (.node (o1194 P) .nil .nil) (.node (o1706 P) .nil .nil)) (.node (o938 P) (.node (o1450 P) .nil .nil) .nil))) (.node (o234 P) (.node (o362 P) (.node (o618 P) (.node (o1130 P) .nil .nil) (.node (o1642 P) .nil .nil)) (.node (o874 P) (.node (o1386 P) .nil .nil) .nil)) (.node (o490 P) (.node (o746 P) (.node (o1258 P) .nil .nil) (.node (o1770 P) .nil .nil)) (.node (o1002 P) (.node (o1514 P) .nil .nil) .nil)))))
def t272_58 (P : Params) : BT := (.node (o58 P) (.node (o90 P) (.node (o154 P) (.node (o282 P) (.node (o538 P) (.node (o1050 P) .nil .nil) (.node (o1562 P) .nil .nil)) (.node (o794 P) (.node (o1306 P) .nil .nil) (.node (o1818 P) .nil .nil))) (.node (o410 P) (.node (o666 P) (.node (o1178 P) .nil .nil) (.node (o1690 P) .nil .nil)) (.node (o922 P) (.node (o1434 P) .nil .nil) .nil))) (.node (o218 P) (.node (o346 P) (.node (o602 P) (.node (o1114 P) .nil .nil) (.node (o1626 P) .nil .nil)) (.node (o858 P) (.node (o1370 P) .nil .nil) .nil)) (.node (o474 P) (.node (o730 P) (.node (o1242 P) .nil .nil) (.node (o1754 P) .nil .nil)) (.node (o986 P) (.node (o1498 P) .nil .nil) .nil)))) (.node (o122 P) (.node (o186 P) (.node (o314 P) (.node (o570 P) (.node (o1082 P) .nil .nil) (.node (o1594 P) .nil .nil)) (.node (o826 P) (.node (o1338 P) .nil .nil) (.node (o1850 P) .nil .nil))) (.node (o442 P) (.node (o698 P) (.node (o1210 P) .nil .nil) (.node (o1722 P) .nil .nil)) (.node (o954 P) (.node (o1466 P) .nil .nil) .nil))) (.node (o250 P) (.node (o378 P) (.node (o634 P) (.node (o1146 P) .nil .nil) (.node (o1658 P) .nil .nil)) (.node (o890 P) (.node (o1402 P) .nil .nil) .nil)) (.node (o506 P) (.node (o762 P) (.node (o1274 P) .nil .nil) (.node (o1786 P) .nil .nil)) (.node (o1018 P) (.node (o1530 P) .nil .nil) .nil)))))
def t272_38 (P : Params) : BT := (.node (o38 P) (.node (o70 P) (.node (o134 P) (.node (o262 P) (.node (o518 P) (.node (o1030 P) .nil .nil) (.node (o1542 P) .nil .nil)) (.node (o774 P) (.node (o1286 P) .nil .nil) (.node (o1798 P) .nil .nil))) (.node (o390 P) (.node (o646 P) (.node (o1158 P) .nil .nil) (.node (o1670 P) .nil .nil)) (.node (o902 P) (.node (o1414 P) .nil .nil) .nil))) (.node (o198 P) (.node (o326 P) (.node (o582 P) (.node (o1094 P) .nil .nil) (.node (o1606 P) .nil .nil)) (.node (o838 P) (.node (o1350 P) .nil .nil) (.node (o1862 P) .nil .nil))) (.node (o454 P) (.node (o710 P) (.node (o1222 P) .nil .nil) (.node (o1734 P) .nil .nil)) (.node (o966 P) (.node (o1478 P) .nil .nil) .nil)))) (.node (o102 P) (.node (o166 P) (.node (o294 P) (.node (o550 P) (.node (o1062 P) .nil .nil) (.node (o1574 P) .nil .nil)) (.node (o806 P) (.node (o1318 P) .nil .nil) (.node (o1830 P) .nil .nil))) (.node (o422 P) (.node (o678 P) (.node (o1190 P) .nil .nil) (.node (o1702 P) .nil .nil)) (.node (o934 P) (.node (o1446 P) .nil .nil) .nil))) (.node (o230 P) (.node (o358 P) (.node (o614 P) (.node (o1126 P) .nil .nil) (.node (o1638 P) .nil .nil)) (.node (o870 P) (.node (o1382 P) .nil .nil) .nil)) (.node (o486 P) (.node (o742 P) (.node (o1254 P) .nil .nil) (.node (o1766 P) .nil .nil)) (.node (o998 P) (.node (o1510 P) .nil .nil) .nil)))))
def t272_54 (P : Params) : BT := (.node (o54 P) (.node (o86 P) (.node (o150 P) (.node (o278 P) (.node (o534 P) (.node (o1046 P) .nil .nil) (.node (o1558 P) .nil .nil)) (.node (o790 P) (.node (o1302 P) .nil .nil) (.node (o1814 P) .nil .nil))) (.node (o406 P) (.node (o662 P) (.node (o1174 P) .nil .nil) (.node (o1686 P) .nil .nil)) (.node (o918 P) (.node (o1430 P) .nil .nil) .nil))) (.node (o214 P) (.node (o342 P) (.node (o598 P) (.node (o1110 P) .nil .nil) (.node (o1622 P) .nil .nil)) (.node (o854 P) (.node (o1366 P) .nil .nil) .nil)) (.node (o470 P) (.node (o726 P) (.node (o1238 P) .nil .nil) (.node (o1750 P) .nil .nil)) (.node (o982 P) (.node (o1494 P) .nil .nil) .nil)))) (.node (o118 P) (.node (o182 P) (.node (o310 P) (.node (o566 P) (.node (o1078 P) .nil .nil) (.node (o1590 P) .nil .nil)) (.node (o822 P) (.node (o1334 P) .nil .nil) (.node (o1846 P) .nil .nil))) (.node (o438 P) (.node (o694 P) (.node (o1206 P) .nil .nil) (.node (o1718 P) .nil .nil)) (.node (o950 P) (.node (o1462 P) .nil .nil) .nil))) (.node (o246 P) (.node (o374 P) (.node (o630 P) (.node (o1142 P) .nil .nil) (.node (o1654 P) .nil .nil)) (.node (o886 P) (.node (o1398 P) .nil .nil) .nil)) (.node (o502 P) (.node (o758 P) (.node (o1270 P) .nil .nil) (.node (o1782 P) .nil .nil)) (.node (o1014 P) (.node (o1526 P) .nil .nil) .nil)))))
def t272_46 (P : Params) : BT := (.node (o46 P) (.node (o78 P) (.node (o142 P) (.node (o270 P) (.node (o526 P) (.node (o1038 P) .nil .nil) (.node (o1550 P) .nil .nil)) (.node (o782 P) (.node (o1294 P) .nil .nil) (.node (o1806 P) .nil .nil))) (.node (o398 P) (.node (o654 P) (.node (o1166 P) .nil .nil) (.node (o1678 P) .nil .nil)) (.node (o910 P) (.node (o1422 P) .nil .nil) .nil))) (.node (o206 P) (.node (o334 P) (.node (o590 P) (.node (o1102 P) .nil .nil) (.node (o1614 P) .nil .nil)) (.node (o846 P) (.node (o1358 P) .nil .nil) (.node (o1870 P) .nil .nil))) (.node (o462 P) (.node (o718 P) (.node (o1230 P) .nil .nil) (.node (o1742 P) .nil .nil)) (.node (o974 P) (.node (o1486 P) .nil .nil) .nil)))) (.node (o110 P) (.node (o174 P) (.node (o302 P) (.node (o558 P) (.node (o1070 P) .nil .nil) (.node (o1582 P) .nil .nil)) (.node (o814 P) (.node (o1326 P) .nil .nil) (.node (o1838 P) .nil .nil))) (.node (o430 P) (.node (o686 P) (.node (o1198 P) .nil .nil) (.node (o1710 P) .nil .nil)) (.node (o942 P) (.node (o1454 P) .nil .nil) .nil))) (.node (o238 P) (.node (o366 P) (.node (o622 P) (.node (o1134 P) .nil .nil) (.node (o1646 P) .nil .nil)) (.node (o878 P) (.node (o1390 P) .nil .nil) .nil)) (.node (o494 P) (.node (o750 P) (.node (o1262 P) .nil .nil) (.node (o1774 P) .nil .nil)) (.node (o1006 P) (.node (o1518 P) .nil .nil) .nil)))))
def t272_62 (P : Params) : BT := (.node (o62 P) (.node (o94 P) (.node (o158 P) (.node (o286 P) (.node (o542 P) (.node (o1054 P) .nil .nil) (.node (o1566 P) .nil .nil)) (.node (o798 P) (.node (o1310 P) .nil .nil) (.node (o1822 P) .nil .nil))) (.node (o414 P) (.node (o670 P) (.node (o1182 P) .nil .nil) (.node (o1694 P) .nil .nil)) (.node (o926 P) (.node (o1438 P) .nil .nil) .nil))) (.node (o222 P) (.node (o350 P) (.node (o606 P) (.node (o1118 P) .nil .nil) (.node (o1630 P) .nil .nil)) (.node (o862 P) (.node (o1374 P) .nil .nil) .nil)) (.node (o478 P) (.node (o734 P) (.node (o1246 P) .nil .nil) (.node (o1758 P) .nil .nil)) (.node (o990 P) (.node (o1502 P) .nil .nil) .nil)))) (.node (o126 P) (.node (o190 P) (.node (o318 P) (.node (o574 P) (.node (o1086 P) .nil .nil) (.node (o1598 P) .nil .nil)) (.node (o830 P) (.node (o1342 P) .nil .nil) (.node (o1854 P) .nil .nil))) (.node (o446 P) (.node (o702 P) (.node (o1214 P) .nil .nil) (.node (o1726 P) .nil .nil)) (.node (o958 P) (.node (o1470 P) .nil .nil) .nil))) (.node (o254 P) (.node (o382 P) (.node (o638 P) (.node (o1150 P) .nil .nil) (.node (o1662 P) .nil .nil)) (.node (o894 P) (.node (o1406 P) .nil .nil) .nil)) (.node (o510 P) (.node (o766 P) (.node (o1278 P) .nil .nil) (.node (o1790 P) .nil .nil)) (.node (o1022 P) (.node (o1534 P) .nil .nil) .nil)))))
def t272 (P : Params) : BT := (.node (o0 P) (.node (o1 P) (.node (o3_6 P) (.node (o7 P) (.node (o15 P) (t272_31 P) (t272_47 P)) (.node (o23 P) (t272_39 P) (t272_55 P))) (.node (o11 P) (.node (o19 P) (t272_35 P) (t272_51 P)) (.node (o27 P) (t272_43 P) (t272_59 P)))) (.node (o5 P) (.node (o9 P) (.node (o17 P) (t272_33 P) (t272_49 P)) (.node (o25 P) (t272_41 P) (t272_57 P))) (.node (o13 P) (.node (o21 P) (t272_37 P) (t272_53 P)) (.node (o29 P) (t272_45 P) (t272_61 P))))) (.node (o2_3 P) (.node (o4 P) (.node (o8 P) (.node (o16 P) (t272_32 P) (t272_48 P)) (.node (o24 P) (t272_40 P) (t272_56 P))) (.node (o12_6 P) (.node (o20 P) (t272_36 P) (t272_52 P)) (.node (o28 P) (t272_44 P) (t272_60 P)))) (.node (o6 P) (.node (o10 P) (.node (o18 P) (t272_34 P) (t272_50 P)) (.node (o26 P) (t272_42 P) (t272_58 P))) (.node (o14 P) (.node (o22 P) (t272_38 P) (t272_54 P)) (.node (o30 P) (t272_46 P) (t272_62 P))))))
def l272 : Life := ⟨[], [], [], 0, [], [], false, ⟨[]⟩, [], 0, false, false, false, 0, [2000, 10, 10], false, 0, true, [], [], 0, false⟩
def S272 (w : World) (os : OsState) : SharedT := ⟨t272 w.params, 1871, l272, ⟨[]⟩, ⟨0, 0, 0, 0⟩, 2940, os⟩
def tfin_31 (P : Params) : BT := (.node (o31 P) (.node (o63 P) (.node (o127 P) (.node (o255 P) (.node (o511 P) (.node (o1023 P) .nil .nil) (.node (o1535 P) .nil .nil)) (.node (o767 P) (.node (o1279 P) .nil .nil) (.node (o1791 P) .nil .nil))) (.node (o383 P) (.node (o639 P) (.node (o1151 P) .nil .nil) (.node (o1663 P) .nil .nil)) (.node (o895 P) (.node (o1407 P) .nil .nil) .nil))) (.node (o191 P) (.node (o319 P) (.node (o575 P) (.node (o1087 P) .nil .nil) (.node (o1599 P) .nil .nil)) (.node (o831 P) (.node (o1343 P) .nil .nil) (.node (o1855 P) .nil .nil))) (.node (o447 P) (.node (o703 P) (.node (o1215 P) .nil .nil) (.node (o1727 P) .nil .nil)) (.node (o959 P) (.node (o1471 P) .nil .nil) .nil)))) (.node (o95 P) (.node (o159 P) (.node (o287 P) (.node (o543 P) (.node (o1055 P) .nil .nil) (.node (o1567 P) .nil .nil)) (.node (o799 P) (.node (o1311 P) .nil .nil) (.node (o1823 P) .nil .nil))) (.node (o415 P) (.node (o671 P) (.node (o1183 P) .nil .nil) (.node (o1695 P) .nil .nil)) (.node (o927 P) (.node (o1439 P) .nil .nil) .nil))) (.node (o223 P) (.node (o351 P) (.node (o607 P) (.node (o1119 P) .nil .nil) (.node (o1631 P) .nil .nil)) (.node (o863 P) (.node (o1375 P) .nil .nil) .nil)) (.node (o479 P) (.node (o735 P) (.node (o1247 P) .nil .nil) (.node (o1759 P) .nil .nil)) (.node (o991 P) (.node (o1503 P) .nil .nil) .nil)))))
def tfin_47 (P : Params) : BT := (.node (o47 P) (.node (o79 P) (.node (o143 P) (.node (o271 P) (.node (o527 P) (.node (o1039 P) .nil .nil) (.node (o1551 P) .nil .nil)) (.node (o783 P) (.node (o1295 P) .nil .nil) (.node (o1807 P) .nil .nil))) (.node (o399 P) (.node (o655 P) (.node (o1167 P) .nil .nil) (.node (o1679 P) .nil .nil)) (.node (o911 P) (.node (o1423 P) .nil .nil) .nil))) (.node (o207 P) (.node (o335 P) (.node (o591 P) (.node (o1103 P) .nil .nil) (.node (o1615 P) .nil .nil)) (.node (o847 P) (.node (o1359 P) .nil .nil) .nil)) (.node (o463 P) (.node (o719 P) (.node (o1231 P) .nil .nil) (.node (o1743 P) .nil .nil)) (.node (o975 P) (.node (o1487 P) .nil .nil) .nil)))) (.node (o111 P) (.node (o175 P) (.node (o303 P) (.node (o559 P) (.node (o1071 P) .nil .nil) (.node (o1583 P) .nil .nil)) (.node (o815 P) (.node (o1327 P) .nil .nil) (.node (o1839 P) .nil .nil))) (.node (o431 P) (.node (o687 P) (.node (o1199 P) .nil .nil) (.node (o1711 P) .nil .nil)) (.node (o943 P) (.node (o1455 P) .nil .nil) .nil))) (.node (o239 P) (.node (o367 P) (.node (o623 P) (.node (o1135 P) .nil .nil) (.node (o1647 P) .nil .nil)) (.node (o879 P) (.node (o1391 P) .nil .nil) .nil)) (.node (o495 P) (.node (o751 P) (.node (o1263 P) .nil .nil) (.node (o1775 P) .nil .nil)) (.node (o1007 P) (.node (o1519 P) .nil .nil) .nil)))))
def tfin_39 (P : Params) : BT := (.node (o39 P) (.node (o71 P) (.node (o135 P) (.node (o263 P) (.node (o519 P) (.node (o1031 P) .nil .nil) (.node (o1543 P) .nil .nil)) (.node (o775 P) (.node (o1287 P) .nil .nil) (.node (o1799 P) .nil .nil))) (.node (o391 P) (.node (o647 P) (.node (o1159 P) .nil .nil) (.node (o1671 P) .nil .nil)) (.node (o903 P) (.node (o1415 P) .nil .nil) .nil))) (.node (o199 P) (.node (o327 P) (.node (o583 P) (.node (o1095 P) .nil .nil) (.node (o1607 P) .nil .nil)) (.node (o839 P) (.node (o1351 P) .nil .nil) (.node (o1863 P) .nil .nil))) (.node (o455 P) (.node (o711 P) (.node (o1223 P) .nil .nil) (.node (o1735 P) .nil .nil)) (.node (o967 P) (.node (o1479 P) .nil .nil) .nil)))) (.node (o103 P) (.node (o167 P) (.node (o295 P) (.node (o551 P) (.node (o1063 P) .nil .nil) (.node (o1575 P) .nil .nil)) (.node (o807 P) (.node (o1319 P) .nil .nil) (.node (o1831 P) .nil .nil))) (.node (o423 P) (.node (o679 P) (.node (o1191 P) .nil .nil) (.node (o1703 P) .nil .nil)) (.node (o935 P) (.node (o1447 P) .nil .nil) .nil))) (.node (o231 P) (.node (o359 P) (.node (o615 P) (.node (o1127 P) .nil .nil) (.node (o1639 P) .nil .nil)) (.node (o871 P) (.node (o1383 P) .nil .nil) .nil)) (.node (o487 P) (.node (o743 P) (.node (o1255 P) .nil .nil) (.node (o1767 P) .nil .nil)) (.node (o999 P) (.node (o1511 P) .nil .nil) .nil)))))
def tfin_55 (P : Params) : BT := (.node (o55 P) (.node (o87 P) (.node (o151 P) (.node (o279 P) (.node (o535 P) (.node (o1047 P) .nil .nil) (.node (o1559 P) .nil .nil)) (.node (o791 P) (.node (o1303 P) .nil .nil) (.node (o1815 P) .nil .nil))) (.node (o407 P) (.node (o663 P) (.node (o1175 P) .nil .nil) (.node (o1687 P) .nil .nil)) (.node (o919 P) (.node (o1431 P) .nil .nil) .nil))) (.node (o215 P) (.node (o343 P) (.node (o599 P) (.node (o1111 P) .nil .nil) (.node (o1623 P) .nil .nil)) (.node (o855 P) (.node (o1367 P) .nil .nil) .nil)) (.node (o471 P) (.node (o727 P) (.node (o1239 P) .nil .nil) (.node (o1751 P) .nil .nil)) (.node (o983 P) (.node (o1495 P) .nil .nil) .nil)))) (.node (o119 P) (.node (o183 P) (.node (o311 P) (.node (o567 P) (.node (o1079 P) .nil .nil) (.node (o1591 P) .nil .nil)) (.node (o823 P) (.node (o1335 P) .nil .nil) (.node (o1847 P) .nil .nil))) (.node (o439 P) (.node (o695 P) (.node (o1207 P) .nil .nil) (.node (o1719 P) .nil .nil)) (.node (o951 P) (.node (o1463 P) .nil .nil) .nil))) (.node (o247 P) (.node (o375 P) (.node (o631 P) (.node (o1143 P) .nil .nil) (.node (o1655 P) .nil .nil)) (.node (o887 P) (.node (o1399 P) .nil .nil) .nil)) (.node (o503 P) (.node (o759 P) (.node (o1271 P) .nil .nil) (.node (o1783 P) .nil .nil)) (.node (o1015 P) (.node (o1527 P) .nil .nil) .nil)))))
def tfin_35 (P : Params) : BT := (.node (o35 P) (.node (o67 P) (.node (o131 P) (.node (o259 P) (.node (o515 P) (.node (o1027 P) .nil .nil) (.node (o1539 P) .nil .nil)) (.node (o771 P) (.node (o1283 P) .nil .nil) (.node (o1795 P) .nil .nil))) (.node (o387 P) (.node (o643 P) (.node (o1155 P) .nil .nil) (.node (o1667 P) .nil .nil)) (.node (o899 P) (.node (o1411 P) .nil .nil) .nil))) (.node (o195 P) (.node (o323 P) (.node (o579 P) (.node (o1091 P) .nil .nil) (.node (o1603 P) .nil .nil)) (.node (o835 P) (.node (o1347 P) .nil .nil) (.node (o1859 P) .nil .nil))) (.node (o451 P) (.node (o707 P) (.node (o1219 P) .nil .nil) (.node (o1731 P) .nil .nil)) (.node (o963 P) (.node (o1475 P) .nil .nil) .nil)))) (.node (o99 P) (.node (o163 P) (.node (o291 P) (.node (o547 P) (.node (o1059 P) .nil .nil) (.node (o1571 P) .nil .nil)) (.node (o803 P) (.node (o1315 P) .nil .nil) (.node (o1827 P) .nil .nil))) (.node (o419 P) (.node (o675 P) (.node (o1187 P) .nil .nil) (.node (o1699 P) .nil .nil)) (.node (o931 P) (.node (o1443 P) .nil .nil) .nil))) (.node (o227 P) (.node (o355 P) (.node (o611 P) (.node (o1123 P) .nil .nil) (.node (o1635 P) .nil .nil)) (.node (o867 P) (.node (o1379 P) .nil .nil) .nil)) (.node (o483 P) (.node (o739 P) (.node (o1251 P) .nil .nil) (.node (o1763 P) .nil .nil)) (.node (o995 P) (.node (o1507 P) .nil .nil) .nil)))))
def tfin_51 (P : Params) : BT := (.node (o51 P) (.node (o83 P) (.node (o147 P) (.node (o275 P) (.node (o531 P) (.node (o1043 P) .nil .nil) (.node (o1555 P) .nil .nil)) (.node (o787 P) (.node (o1299 P) .nil .nil) (.node (o1811 P) .nil .nil))) (.node (o403 P) (.node (o659 P) (.node (o1171 P) .nil .nil) (.node (o1683 P) .nil .nil)) (.node (o915 P) (.node (o1427 P) .nil .nil) .nil))) (.node (o211 P) (.node (o339 P) (.node (o595 P) (.node (o1107 P) .nil .nil) (.node (o1619 P) .nil .nil)) (.node (o851 P) (.node (o1363 P) .nil .nil) .nil)) (.node (o467 P) (.node (o723 P) (.node (o1235 P) .nil .nil) (.node (o1747 P) .nil .nil)) (.node (o979 P) (.node (o1491 P) .nil .nil) .nil)))) (.node (o115 P) (.node (o179 P) (.node (o307 P) (.node (o563 P) (.node (o1075 P) .nil .nil) (.node (o1587 P) .nil .nil)) (.node (o819 P) (.node (o1331 P) .nil .nil) (.node (o1843 P) .nil .nil))) (.node (o435 P) (.node (o691 P) (.node (o1203 P) .nil .nil) (.node (o1715 P) .nil .nil)) (.node (o947 P) (.node (o1459 P) .nil .nil) .nil))) (.node (o243 P) (.node (o371 P) (.node (o627 P) (.node (o1139 P) .nil .nil) (.node (o1651 P) .nil .nil)) (.node (o883 P) (.node (o1395 P) .nil .nil) .nil)) (.node (o499 P) (.node (o755 P) (.node (o1267 P) .nil .nil) (.node (o1779 P) .nil .nil)) (.node (o1011 P) (.node (o1523 P) .nil .nil) .nil)))))
def tfin_43 (P : Params) : BT := (.node (o43 P) (.node (o75 P) (.node (o139 P) (.node (o267 P) (.node (o523 P) (.node (o1035 P) .nil .nil) (.node (o1547 P) .nil .nil)) (.node (o779 P) (.node (o1291 P) .nil .nil) (.node (o1803 P) .nil .nil))) (.node (o395 P) (.node (o651 P) (.node (o1163 P) .nil .nil) (.node (o1675 P) .nil .nil)) (.node (o907 P) (.node (o1419 P) .nil .nil) .nil))) (.node (o203 P) (.node (o331 P) (.node (o587 P) (.node (o1099 P) .nil .nil) (.node (o1611 P) .nil .nil)) (.node (o843 P) (.node (o1355 P) .nil .nil) (.node (o1867 P) .nil .nil))) (.node (o459 P) (.node (o715 P) (.node (o1227 P) .nil .nil) (.node (o1739 P) .nil .nil)) (.node (o971 P) (.node (o1483 P) .nil .nil) .nil)))) (.node (o107 P) (.node (o171 P) (.node (o299 P) (.node (o555 P) (.node (o1067 P) .nil .nil) (.node (o1579 P) .nil .nil)) (.node (o811 P) (.node (o1323 P) .nil .nil) (.node (o1835 P) .nil .nil))) (.node (o427 P) (.node (o683 P) (.node (o1195 P) .nil .nil) (.node (o1707 P) .nil .nil)) (.node (o939 P) (.node (o1451 P) .nil .nil) .nil))) (.node (o235 P) (.node (o363 P) (.node (o619 P) (.node (o1131 P) .nil .nil) (.node (o1643 P) .nil .nil)) (.node (o875 P) (.node (o1387 P) .nil .nil) .nil)) (.node (o491 P) (.node (o747 P) (.node (o1259 P) .nil .nil) (.node (o1771 P) .nil .nil)) (.node (o1003 P) (.node (o1515 P) .nil .nil) .nil)))))
def tfin_59 (P : Params) : BT := (.node (o59 P) (.node (o91 P) (.node (o155 P) (.node (o283 P) (.node (o539 P) (.node (o1051 P) .nil .nil) (.node (o1563 P) .nil .nil)) (.node (o795 P) (.node (o1307 P) .nil .nil) (.node (o1819 P) .nil .nil))) (.node (o411 P) (.node (o667 P) (.node (o1179 P) .nil .nil) (.node (o1691 P) .nil .nil)) (.node (o923 P) (.node (o1435 P) .nil .nil) .nil))) (.node (o219 P) (.node (o347 P) (.node (o603 P) (.node (o1115 P) .nil .nil) (.node (o1627 P) .nil .nil)) (.node (o859 P) (.node (o1371 P) .nil .nil) .nil)) (.node (o475 P) (.node (o731 P) (.node (o1243 P) .nil .nil) (.node (o1755 P) .nil .nil)) (.node (o987 P) (.node (o1499 P) .nil .nil) .nil)))) (.node (o123 P) (.node (o187 P) (.node (o315 P) (.node (o571 P) (.node (o1083 P) .nil .nil) (.node (o1595 P) .nil .nil)) (.node (o827 P) (.node (o1339 P) .nil .nil) (.node (o1851 P) .nil .nil))) (.node (o443 P) (.node (o699 P) (.node (o1211 P) .nil .nil) (.node (o1723 P) .nil .nil)) (.node (o955 P) (.node (o1467 P) .nil .nil) .nil))) (.node (o251 P) (.node (o379 P) (.node (o635 P) (.node (o1147 P) .nil .nil) (.node (o1659 P) .nil .nil)) (.node (o891 P) (.node (o1403 P) .nil .nil) .nil)) (.node (o507 P) (.node (o763 P) (.node (o1275 P) .nil .nil) (.node (o1787 P) .nil .nil)) (.node (o1019 P) (.node (o1531 P) .nil .nil) .nil)))))
def tfin_33 (P : Params) : BT := (.node (o33 P) (.node (o65 P) (.node (o129 P) (.node (o257 P) (.node (o513 P) (.node (o1025 P) .nil .nil) (.node (o1537 P) .nil .nil)) (.node (o769 P) (.node (o1281 P) .nil .nil) (.node (o1793 P) .nil .nil))) (.node (o385 P) (.node (o641 P) (.node (o1153 P) .nil .nil) (.node (o1665 P) .nil .nil)) (.node (o897 P) (.node (o1409 P) .nil .nil) .nil))) (.node (o193 P) (.node (o321 P) (.node (o577 P) (.node (o1089 P) .nil .nil) (.node (o1601 P) .nil .nil)) (.node (o833 P) (.node (o1345 P) .nil .nil) (.node (o1857 P) .nil .nil))) (.node (o449 P) (.node (o705 P) (.node (o1217 P) .nil .nil) (.node (o1729 P) .nil .nil)) (.node (o961 P) (.node (o1473 P) .nil .nil) .nil)))) (.node (o97 P) (.node (o161 P) (.node (o289 P) (.node (o545 P) (.node (o1057 P) .nil .nil) (.node (o1569 P) .nil .nil)) (.node (o801 P) (.node (o1313 P) .nil .nil) (.node (o1825 P) .nil .nil))) (.node (o417 P) (.node (o673 P) (.node (o1185 P) .nil .nil) (.node (o1697 P) .nil .nil)) (.node (o929 P) (.node (o1441 P) .nil .nil) .nil))) (.node (o225 P) (.node (o353 P) (.node (o609 P) (.node (o1121 P) .nil .nil) (.node (o1633 P) .nil .nil)) (.node (o865 P) (.node (o1377 P) .nil .nil) .nil)) (.node (o481 P) (.node (o737 P) (.node (o1249 P) .nil .nil) (.node (o1761 P) .nil .nil)) (.node (o993 P) (.node (o1505 P) .nil .nil) .nil)))))
def tfin_49 (P : Params) : BT := (.node (o49 P) (.node (o81 P) (.node (o145 P) (.node (o273 P) (.node (o529 P) (.node (o1041 P) .nil .nil) (.node (o1553 P) .nil .nil)) (.node (o785 P) (.node (o1297 P) .nil .nil) (.node (o1809 P) .nil .nil))) (.node (o401 P) (.node (o657 P) (.node (o1169 P) .nil .nil) (.node (o1681 P) .nil .nil)) (.node (o913 P) (.node (o1425 P) .nil .nil) .nil))) (.node (o209 P) (.node (o337 P) (.node (o593 P) (.node (o1105 P) .nil .nil) (.node (o1617 P) .nil .nil)) (.node (o849 P) (.node (o1361 P) .nil .nil) .nil)) (.node (o465 P) (.node (o721 P) (.node (o1233 P) .nil .nil) (.node (o1745 P) .nil .nil)) (.node (o977 P) (.node (o1489 P) .nil .nil) .nil)))) (.node (o113 P) (.node (o177 P) (.node (o305 P) (.node (o561 P) (.node (o1073 P) .nil .nil) (.node (o1585 P) .nil .nil)) (.node (o817 P) (.node (o1329 P) .nil .nil) (.node (o1841 P) .nil .nil))) (.node (o433 P) (.node (o689 P) (.node (o1201 P) .nil .nil) (.node (o1713 P) .nil .nil)) (.node (o945 P) (.node (o1457 P) .nil .nil) .nil))) (.node (o241 P) (.node (o369 P) (.node (o625 P) (.node (o1137 P) .nil .nil) (.node (o1649 P) .nil .nil)) (.node (o881 P) (.node (o1393 P) .nil .nil) .nil)) (.node (o497 P) (.node (o753 P) (.node (o1265 P) .nil .nil) (.node (o1777 P) .nil .nil)) (.node (o1009 P) (.node (o1521 P) .nil .nil) .nil)))))
def tfin_41 (P : Params) : BT := (.node (o41 P) (.node (o73 P) (.node (o137 P) (.node (o265 P) (.node (o521 P) (.node (o1033 P) .nil .nil) (.node (o1545 P) .nil .nil)) (.node (o777 P) (.node (o1289 P) .nil .nil) (.node (o1801 P) .nil .nil))) (.node (o393 P) (.node (o649 P) (.node (o1161 P) .nil .nil) (.node (o1673 P) .nil .nil)) (.node (o905 P) (.node (o1417 P) .nil .nil) .nil))) (.node (o201 P) (.node (o329 P) (.node (o585 P) (.node (o1097 P) .nil .nil) (.node (o1609 P) .nil .nil)) (.node (o841 P) (.node (o1353 P) .nil .nil) (.node (o1865 P) .nil .nil))) (.node (o457 P) (.node (o713 P) (.node (o1225 P) .nil .nil) (.node (o1737 P) .nil .nil)) (.node (o969 P) (.node (o1481 P) .nil .nil) .nil)))) (.node (o105 P) (.node (o169 P) (.node (o297 P) (.node (o553 P) (.node (o1065 P) .nil .nil) (.node (o1577 P) .nil .nil)) (.node (o809 P) (.node (o1321 P) .nil .nil) (.node (o1833 P) .nil .nil))) (.node (o425 P) (.node (o681 P) (.node (o1193 P) .nil .nil) (.node (o1705 P) .nil .nil)) (.node (o937 P) (.node (o1449 P) .nil .nil) .nil))) (.node (o233 P) (.node (o361 P) (.node (o617 P) (.node (o1129 P) .nil .nil) (.node (o1641 P) .nil .nil)) (.node (o873 P) (.node (o1385 P) .nil .nil) .nil)) (.node (o489 P) (.node (o745 P) (.node (o1257 P) .nil .nil) (.node (o1769 P) .nil .nil)) (.node (o1001 P) (.node (o1513 P) .nil .nil) .nil)))))
def tfin_57 (P : Params) : BT := (.node (o57 P) (.node (o89 P) (.node (o153 P) (.node (o281 P) (.node (o537 P) (.node (o1049 P) .nil .nil) (.node (o1561 P) .nil .nil)) (.node (o793 P) (.node (o1305 P) .nil .nil) (.node (o1817 P) .nil .nil))) (.node (o409 P) (.node (o665 P) (.node (o1177 P) .nil .nil) (.node (o1689 P) .nil .nil)) (.node (o921 P) (.node (o1433 P) .nil .nil) .nil))) (.node (o217 P) (.node (o345 P) (.node (o601 P) (.node (o1113 P) .nil .nil) (.node (o1625 P) .nil .nil)) (.node (o857 P) (.node (o1369 P) .nil .nil) .nil)) (.node (o473 P) (.node (o729 P) (.node (o1241 P) .nil .nil) (.node (o1753 P) .nil .nil)) (.node (o985 P) (.node (o1497 P) .nil .nil) .nil)))) (.node (o121 P) (.node (o185 P) (.node (o313 P) (.node (o569 P) (.node (o1081 P) .nil .nil) (.node (o1593 P) .nil .nil)) (.node (o825 P) (.node (o1337 P) .nil .nil) (.node (o1849 P) .nil .nil))) (.node (o441 P) (.node (o697 P) (.node (o1209 P) .nil .nil) (.node (o1721 P) .nil .nil)) (.node (o953 P) (.node (o1465 P) .nil .nil) .nil))) (.node (o249 P) (.node (o377 P) (.node (o633 P) (.node (o1145 P) .nil .nil) (.node (o1657 P) .nil .nil)) (.node (o889 P) (.node (o1401 P) .nil .nil) .nil)) (.node (o505 P) (.node (o761 P) (.node (o1273 P) .nil .nil) (.node (o1785 P) .nil .nil)) (.node (o1017 P) (.node (o1529 P) .nil .nil) .nil)))))
def tfin_37 (P : Params) : BT := (.node (o37 P) (.node (o69 P) (.node (o133 P) (.node (o261 P) (.node (o517 P) (.node (o1029 P) .nil .nil) (.node (o1541 P) .nil .nil)) (.node (o773 P) (.node (o1285 P) .nil .nil) (.node (o1797 P) .nil .nil))) (.node (o389 P) (.node (o645 P) (.node (o1157 P) .nil .nil) (.node (o1669 P) .nil .nil)) (.node (o901 P) (.node (o1413 P) .nil .nil) .nil))) (.node (o197 P) (.node (o325 P) (.node (o581 P) (.node (o1093 P) .nil .nil) (.node (o1605 P) .nil .nil)) (.node (o837 P) (.node (o1349 P) .nil .nil) (.node (o1861 P) .nil .nil))) (.node (o453 P) (.node (o709 P) (.node (o1221 P) .nil .nil) (.node (o1733 P) .nil .nil)) (.node (o965 P) (.node (o1477 P) .nil .nil) .nil)))) (.node (o101 P) (.node (o165 P) (.node (o293 P) (.node (o549 P) (.node (o1061 P) .nil .nil) (.node (o1573 P) .nil .nil)) (.node (o805 P) (.node (o1317 P) .nil .nil) (.node (o1829 P) .nil .nil))) (.node (o421 P) (.node (o677 P) (.node (o1189 P) .nil .nil) (.node (o1701 P) .nil .nil)) (.node (o933 P) (.node (o1445 P) .nil .nil) .nil))) (.node (o229 P) (.node (o357 P) (.node (o613 P) (.node (o1125 P) .nil .nil) (.node (o1637 P) .nil .nil)) (.node (o869 P) (.node (o1381 P) .nil .nil) .nil)) (.node (o485 P) (.node (o741 P) (.node (o1253 P) .nil .nil) (.node (o1765 P) .nil .nil)) (.node (o997 P) (.node (o1509 P) .nil .nil) .nil)))))
def tfin_53 (P : Params) : BT := (.node (o53 P) (.node (o85 P) (.node (o149 P) (.node (o277 P) (.node (o533 P) (.node (o1045 P) .nil .nil) (.node (o1557 P) .nil .nil)) (.node (o789 P) (.node (o1301 P) .nil .nil) (.node (o1813 P) .nil .nil))) (.node (o405 P) (.node (o661 P) (.node (o1173 P) .nil .nil) (.node (o1685 P) .nil .nil)) (.node (o917 P) (.node (o1429 P) .nil .nil) .nil))) (.node (o213 P) (.node (o341 P) (.node (o597 P) (.node (o1109 P) .nil .nil) (.node (o1621 P) .nil .nil)) (.node (o853 P) (.node (o1365 P) .nil .nil) .nil)) (.node (o469 P) (.node (o725 P) (.node (o1237 P) .nil .nil) (.node (o1749 P) .nil .nil)) (.node (o981 P) (.node (o1493 P) .nil .nil) .nil)))) (.node (o117 P) (.node (o181 P) (.node (o309 P) (.node (o565 P) (.node (o1077 P) .nil .nil) (.node (o1589 P) .nil .nil)) (.node (o821 P) (.node (o1333 P) .nil .nil) (.node (o1845 P) .nil .nil))) (.node (o437 P) (.node (o693 P) (.node (o1205 P) .nil .nil) (.node (o1717 P) .nil .nil)) (.node (o949 P) (.node (o1461 P) .nil .nil) .nil))) (.node (o245 P) (.node (o373 P) (.node (o629 P) (.node (o1141 P) .nil .nil) (.node (o1653 P) .nil .nil)) (.node (o885 P) (.node (o1397 P) .nil .nil) .nil)) (.node (o501 P) (.node (o757 P) (.node (o1269 P) .nil .nil) (.node (o1781 P) .nil .nil)) (.node (o1013 P) (.node (o1525 P) .nil .nil) .nil)))))
def tfin_45 (P : Params) : BT := (.node (o45 P) (.node (o77 P) (.node (o141 P) (.node (o269 P) (.node (o525 P) (.node (o1037 P) .nil .nil) (.node (o1549 P) .nil .nil)) (.node (o781 P) (.node (o1293 P) .nil .nil) (.node (o1805 P) .nil .nil))) (.node (o397 P) (.node (o653 P) (.node (o1165 P) .nil .nil) (.node (o1677 P) .nil .nil)) (.node (o909 P) (.node (o1421 P) .nil .nil) .nil))) (.node (o205 P) (.node (o333 P) (.node (o589 P) (.node (o1101 P) .nil .nil) (.node (o1613 P) .nil .nil)) (.node (o845 P) (.node (o1357 P) .nil .nil) (.node (o1869 P) .nil .nil))) (.node (o461 P) (.node (o717 P) (.node (o1229 P) .nil .nil) (.node (o1741 P) .nil .nil)) (.node (o973 P) (.node (o1485 P) .nil .nil) .nil)))) (.node (o109 P) (.node (o173 P) (.node (o301 P) (.node (o557 P) (.node (o1069 P) .nil .nil) (.node (o1581 P) .nil .nil)) (.node (o813 P) (.node (o1325 P) .nil .nil) (.node (o1837 P) .nil .nil))) (.node (o429 P) (.node (o685 P) (.node (o1197 P) .nil .nil) (.node (o1709 P) .nil .nil)) (.node (o941 P) (.node (o1453 P) .nil .nil) .nil))) (.node (o237 P) (.node (o365 P) (.node (o621 P) (.node (o1133 P) .nil .nil) (.node (o1645 P) .nil .nil)) (.node (o877 P) (.node (o1389 P) .nil .nil) .nil)) (.node (o493 P) (.node (o749 P) (.node (o1261 P) .nil .nil) (.node (o1773 P) .nil .nil)) (.node (o1005 P) (.node (o1517 P) .nil .nil) .nil)))))
def tfin_61 (P : Params) : BT := (.node (o61 P) (.node (o93 P) (.node (o157 P) (.node (o285 P) (.node (o541 P) (.node (o1053 P) .nil .nil) (.node (o1565 P) .nil .nil)) (.node (o797 P) (.node (o1309 P) .nil .nil) (.node (o1821 P) .nil .nil))) (.node (o413 P) (.node (o669 P) (.node (o1181 P) .nil .nil) (.node (o1693 P) .nil .nil)) (.node (o925 P) (.node (o1437 P) .nil .nil) .nil))) (.node (o221 P) (.node (o349 P) (.node (o605 P) (.node (o1117 P) .nil .nil) (.node (o1629 P) .nil .nil)) (.node (o861 P) (.node (o1373 P) .nil .nil) .nil)) (.node (o477 P) (.node (o733 P) (.node (o1245 P) .nil .nil) (.node (o1757 P) .nil .nil)) (.node (o989 P) (.node (o1501 P) .nil .nil) .nil)))) (.node (o125 P) (.node (o189 P) (.node (o317 P) (.node (o573 P) (.node (o1085 P) .nil .nil) (.node (o1597 P) .nil .nil)) (.node (o829 P) (.node (o1341 P) .nil .nil) (.node (o1853 P) .nil .nil))) (.node (o445 P) (.node (o701 P) (.node (o1213 P) .nil .nil) (.node (o1725 P) .nil .nil)) (.node (o957 P) (.node (o1469 P) .nil .nil) .nil))) (.node (o253 P) (.node (o381 P) (.node (o637 P) (.node (o1149 P) .nil .nil) (.node (o1661 P) .nil .nil)) (.node (o893 P) (.node (o1405 P) .nil .nil) .nil)) (.node (o509 P) (.node (o765 P) (.node (o1277 P) .nil .nil) (.node (o1789 P) .nil .nil)) (.node (o1021 P) (.node (o1533 P) .nil .nil) .nil)))))
def tfin_32 (P : Params) : BT := (.node (o32 P) (.node (o64 P) (.node (o128 P) (.node (o256 P) (.node (o512 P) (.node (o1024 P) .nil .nil) (.node (o1536 P) .nil .nil)) (.node (o768 P) (.node (o1280 P) .nil .nil) (.node (o1792 P) .nil .nil))) (.node (o384 P) (.node (o640 P) (.node (o1152 P) .nil .nil) (.node (o1664 P) .nil .nil)) (.node (o896 P) (.node (o1408 P) .nil .nil) .nil))) (.node (o192 P) (.node (o320 P) (.node (o576 P) (.node (o1088 P) .nil .nil) (.node (o1600 P) .nil .nil)) (.node (o832 P) (.node (o1344 P) .nil .nil) (.node (o1856 P) .nil .nil))) (.node (o448 P) (.node (o704 P) (.node (o1216 P) .nil .nil) (.node (o1728 P) .nil .nil)) (.node (o960 P) (.node (o1472 P) .nil .nil) .nil)))) (.node (o96 P) (.node (o160 P) (.node (o288 P) (.node (o544 P) (.node (o1056 P) .nil .nil) (.node (o1568 P) .nil .nil)) (.node (o800 P) (.node (o1312 P) .nil .nil) (.node (o1824 P) .nil .nil))) (.node (o416 P) (.node (o672 P) (.node (o1184 P) .nil .nil) (.node (o1696 P) .nil .nil)) (.node (o928 P) (.node (o1440 P) .nil .nil) .nil))) (.node (o224 P) (.node (o352 P) (.node (o608 P) (.node (o1120 P) .nil .nil) (.node (o1632 P) .nil .nil)) (.node (o864 P) (.node (o1376 P) .nil .nil) .nil)) (.node (o480 P) (.node (o736 P) (.node (o1248 P) .nil .nil) (.node (o1760 P) .nil .nil)) (.node (o992 P) (.node (o1504 P) .nil .nil) .nil)))))
def tfin_48 (P : Params) : BT := (.node (o48 P) (.node (o80 P) (.node (o144 P) (.node (o272 P) (.node (o528 P) (.node (o1040 P) .nil .nil) (.node (o1552 P) .nil .nil)) (.node (o784 P) (.node (o1296 P) .nil .nil) (.node (o1808 P) .nil .nil))) (.node (o400 P) (.node (o656 P) (.node (o1168 P) .nil .nil) (.node (o1680 P) .nil .nil)) (.node (o912 P) (.node (o1424 P) .nil .nil) .nil))) (.node (o208 P) (.node (o336 P) (.node (o592 P) (.node (o1104 P) .nil .nil) (.node (o1616 P) .nil .nil)) (.node (o848 P) (.node (o1360 P) .nil .nil) .nil)) (.node (o464 P) (.node (o720 P) (.node (o1232 P) .nil .nil) (.node (o1744 P) .nil .nil)) (.node (o976 P) (.node (o1488 P) .nil .nil) .nil)))) (.node (o112 P) (.node (o176 P) (.node (o304 P) (.node (o560 P) (.node (o1072 P) .nil .nil) (.node (o1584 P) .nil .nil)) (.node (o816 P) (.node (o1328 P) .nil .nil) (.node (o1840 P) .nil .nil))) (.node (o432 P) (.node (o688 P) (.node (o1200 P) .nil .nil) (.node (o1712 P) .nil .nil)) (.node (o944 P) (.node (o1456 P) .nil .nil) .nil))) (.node (o240 P) (.node (o368 P) (.node (o624 P) (.node (o1136 P) .nil .nil) (.node (o1648 P) .nil .nil)) (.node (o880 P) (.node (o1392 P) .nil .nil) .nil)) (.node (o496 P) (.node (o752 P) (.node (o1264 P) .nil .nil) (.node (o1776 P) .nil .nil)) (.node (o1008 P) (.node (o1520 P) .nil .nil) .nil)))))
def tfin_40 (P : Params) : BT := (.node (o40 P) (.node (o72 P) (.node (o136 P) (.node (o264 P) (.node (o520 P) (.node (o1032 P) .nil .nil) (.node (o1544 P) .nil .nil)) (.node (o776 P) (.node (o1288 P) .nil .nil) (.node (o1800 P) .nil .nil))) (.node (o392 P) (.node (o648 P) (.node (o1160 P) .nil .nil) (.node (o1672 P) .nil .nil)) (.node (o904 P) (.node (o1416 P) .nil .nil) .nil))) (.node (o200 P) (.node (o328 P) (.node (o584 P) (.node (o1096 P) .nil .nil) (.node (o1608 P) .nil .nil)) (.node (o840 P) (.node (o1352 P) .nil .nil) (.node (o1864 P) .nil .nil))) (.node (o456 P) (.node (o712 P) (.node (o1224 P) .nil .nil) (.node (o1736 P) .nil .nil)) (.node (o968 P) (.node (o1480 P) .nil .nil) .nil)))) (.node (o104 P) (.node (o168 P) (.node (o296 P) (.node (o552 P) (.node (o1064 P) .nil .nil) (.node (o1576 P) .nil .nil)) (.node (o808 P) (.node (o1320 P) .nil .nil) (.node (o1832 P) .nil .nil))) (.node (o424 P) (.node (o680 P) (.node (o1192 P) .nil .nil) (.node (o1704 P) .nil .nil)) (.node (o936 P) (.node (o1448 P) .nil .nil) .nil))) (.node (o232 P) (.node (o360 P) (.node (o616 P) (.node (o1128 P) .nil .nil) (.node (o1640 P) .nil .nil)) (.node (o872 P) (.node (o1384 P) .nil .nil) .nil)) (.node (o488 P) (.node (o744 P) (.node (o1256 P) .nil .nil) (.node (o1768 P) .nil .nil)) (.node (o1000 P) (.node (o1512 P) .nil .nil) .nil)))))
def tfin_56 (P : Params) : BT := (.node (o56 P) (.node (o88 P) (.node (o152 P) (.node (o280 P) (.node (o536 P) (.node (o1048 P) .nil .nil) (.node (o1560 P) .nil .nil)) (.node (o792 P) (.node (o1304 P) .nil .nil) (.node (o1816 P) .nil .nil))) (.node (o408 P) (.node (o664 P) (.node (o1176 P) .nil .nil) (.node (o1688 P) .nil .nil)) (.node (o920 P) (.node (o1432 P) .nil .nil) .nil))) (.node (o216 P) (.node (o344 P) (.node (o600 P) (.node (o1112 P) .nil .nil) (.node (o1624 P) .nil .nil)) (.node (o856 P) (.node (o1368 P) .nil .nil) .nil)) (.node (o472 P) (.node (o728 P) (.node (o1240 P) .nil .nil) (.node (o1752 P) .nil .nil)) (.node (o984 P) (.node (o1496 P) .nil .nil) .nil)))) (.node (o120 P) (.node (o184 P) (.node (o312 P) (.node (o568 P) (.node (o1080 P) .nil .nil) (.node (o1592 P) .nil .nil)) (.node (o824 P) (.node (o1336 P) .nil .nil) (.node (o1848 P) .nil .nil))) (.node (o440 P) (.node (o696 P) (.node (o1208 P) .nil .nil) (.node (o1720 P) .nil .nil)) (.node (o952 P) (.node (o1464 P) .nil .nil) .nil))) (.node (o248 P) (.node (o376 P) (.node (o632 P) (.node (o1144 P) .nil .nil) (.node (o1656 P) .nil .nil)) (.node (o888 P) (.node (o1400 P) .nil .nil) .nil)) (.node (o504 P) (.node (o760 P) (.node (o1272 P) .nil .nil) (.node (o1784 P) .nil .nil)) (.node (o1016 P) (.node (o1528 P) .nil .nil) .nil)))))
def tfin_36 (P : Params) : BT := (.node (o36 P) (.node (o68 P) (.node (o132 P) (.node (o260 P) (.node (o516 P) (.node (o1028 P) .nil .nil) (.node (o1540 P) .nil .nil)) (.node (o772 P) (.node (o1284 P) .nil .nil) (.node (o1796 P) .nil .nil))) (.node (o388 P) (.node (o644 P) (.node (o1156 P) .nil .nil) (.node (o1668 P) .nil .nil)) (.node (o900 P) (.node (o1412 P) .nil .nil) .nil))) (.node (o196 P) (.node (o324 P) (.node (o580 P) (.node (o1092 P) .nil .nil) (.node (o1604 P) .nil .nil)) (.node (o836 P) (.node (o1348 P) .nil .nil) (.node (o1860 P) .nil .nil))) (.node (o452 P) (.node (o708 P) (.node (o1220 P) .nil .nil) (.node (o1732 P) .nil .nil)) (.node (o964 P) (.node (o1476 P) .nil .nil) .nil)))) (.node (o100 P) (.node (o164 P) (.node (o292 P) (.node (o548 P) (.node (o1060 P) .nil .nil) (.node (o1572 P) .nil .nil)) (.node (o804 P) (.node (o1316 P) .nil .nil) (.node (o1828 P) .nil .nil))) (.node (o420 P) (.node (o676 P) (.node (o1188 P) .nil .nil) (.node (o1700 P) .nil .nil)) (.node (o932 P) (.node (o1444 P) .nil .nil) .nil))) (.node (o228 P) (.node (o356 P) (.node (o612 P) (.node (o1124 P) .nil .nil) (.node (o1636 P) .nil .nil)) (.node (o868 P) (.node (o1380 P) .nil .nil) .nil)) (.node (o484 P) (.node (o740 P) (.node (o1252 P) .nil .nil) (.node (o1764 P) .nil .nil)) (.node (o996 P) (.node (o1508 P) .nil .nil) .nil)))))
def tfin_52 (P : Params) : BT := (.node (o52 P) (.node (o84 P) (.node (o148 P) (.node (o276 P) (.node (o532 P) (.node (o1044 P) .nil .nil) (.node (o1556 P) .nil .nil)) (.node (o788 P) (.node (o1300 P) .nil .nil) (.node (o1812 P) .nil .nil))) (.node (o404 P) (.node (o660 P) (.node (o1172 P) .nil .nil) (.node (o1684 P) .nil .nil)) (.node (o916 P) (.node (o1428 P) .nil .nil) .nil))) (.node (o212 P) (.node (o340 P) (.node (o596 P) (.node (o1108 P) .nil .nil) (.node (o1620 P) .nil .nil)) (.node (o852 P) (.node (o1364 P) .nil .nil) .nil)) (.node (o468 P) (.node (o724 P) (.node (o1236 P) .nil .nil) (.node (o1748 P) .nil .nil)) (.node (o980 P) (.node (o1492 P) .nil .nil) .nil)))) (.node (o116 P) (.node (o180 P) (.node (o308 P) (.node (o564 P) (.node (o1076 P) .nil .nil) (.node (o1588 P) .nil .nil)) (.node (o820 P) (.node (o1332 P) .nil .nil) (.node (o1844 P) .nil .nil))) (.node (o436 P) (.node (o692 P) (.node (o1204 P) .nil .nil) (.node (o1716 P) .nil .nil)) (.node (o948 P) (.node (o1460 P) .nil .nil) .nil))) (.node (o244 P) (.node (o372 P) (.node (o628 P) (.node (o1140 P) .nil .nil) (.node (o1652 P) .nil .nil)) (.node (o884 P) (.node (o1396 P) .nil .nil) .nil)) (.node (o500 P) (.node (o756 P) (.node (o1268 P) .nil .nil) (.node (o1780 P) .nil .nil)) (.node (o1012 P) (.node (o1524 P) .nil .nil) .nil)))))
def tfin_44 (P : Params) : BT := (.node (o44 P) (.node (o76 P) (.node (o140 P) (.node (o268 P) (.node (o524 P) (.node (o1036 P) .nil .nil) (.node (o1548 P) .nil .nil)) (.node (o780 P) (.node (o1292 P) .nil .nil) (.node (o1804 P) .nil .nil))) (.node (o396 P) (.node (o652 P) (.node (o1164 P) .nil .nil) (.node (o1676 P) .nil .nil)) (.node (o908 P) (.node (o1420 P) .nil .nil) .nil))) (.node (o204 P) (.node (o332 P) (.node (o588 P) (.node (o1100 P) .nil .nil) (.node (o1612 P) .nil .nil)) (.node (o844 P) (.node (o1356 P) .nil .nil) (.node (o1868 P) .nil .nil))) (.node (o460 P) (.node (o716 P) (.node (o1228 P) .nil .nil) (.node (o1740 P) .nil .nil)) (.node (o972 P) (.node (o1484 P) .nil .nil) .nil)))) (.node (o108 P) (.node (o172 P) (.node (o300 P) (.node (o556 P) (.node (o1068 P) .nil .nil) (.node (o1580 P) .nil .nil)) (.node (o812 P) (.node (o1324 P) .nil .nil) (.node (o1836 P) .nil .nil))) (.node (o428 P) (.node (o684 P) (.node (o1196 P) .nil .nil) (.node (o1708 P) .nil .nil)) (.node (o940 P) (.node (o1452 P) .nil .nil) .nil))) (.node (o236 P) (.node (o364 P) (.node (o620 P) (.node (o1132 P) .nil .nil) (.node (o1644 P) .nil .nil)) (.node (o876 P) (.node (o1388 P) .nil .nil) .nil)) (.node (o492 P) (.node (o748 P) (.node (o1260 P) .nil .nil) (.node (o1772 P) .nil .nil)) (.node (o1004 P) (.node (o1516 P) .nil .nil) .nil)))))
def tfin_60 (P : Params) : BT := (.node (o60 P) (.node (o92 P) (.node (o156 P) (.node (o284 P) (.node (o540 P) (.node (o1052 P) .nil .nil) (.node (o1564 P) .nil .nil)) (.node (o796 P) (.node (o1308 P) .nil .nil) (.node (o1820 P) .nil .nil))) (.node (o412 P) (.node (o668 P) (.node (o1180 P) .nil .nil) (.node (o1692 P) .nil .nil)) (.node (o924 P) (.node (o1436 P) .nil .nil) .nil))) (.node (o220 P) (.node (o348 P) (.node (o604 P) (.node (o1116 P) .nil .nil) (.node (o1628 P) .nil .nil)) (.node (o860 P) (.node (o1372 P) .nil .nil) .nil)) (.node (o476 P) (.node (o732 P) (.node (o1244 P) .nil .nil) (.node (o1756 P) .nil .nil)) (.node (o988 P) (.node (o1500 P) .nil .nil) .nil)))) (.node (o124 P) (.node (o188 P) (.node (o316 P) (.node (o572 P) (.node (o1084 P) .nil .nil) (.node (o1596 P) .nil .nil)) (.node (o828 P) (.node (o1340 P) .nil .nil) (.node (o1852 P) .nil .nil))) (.node (o444 P) (.node (o700 P) (.node (o1212 P) .nil .nil) (.node (o1724 P) .nil .nil)) (.node (o956 P) (.node (o1468 P) .nil .nil) .nil))) (.node (o252 P) (.node (o380 P) (.node (o636 P) (.node (o1148 P) .nil .nil) (.node (o1660 P) .nil .nil)) (.node (o892 P) (.node (o1404 P) .nil .nil) .nil)) (.node (o508 P) (.node (o764 P) (.node (o1276 P) .nil .nil) (.node (o1788 P) .nil .nil)) (.node (o1020 P) (.node (o1532 P) .nil .nil) .nil)))))
def tfin_34 (P : Params) : BT := (.node (o34 P) (.node (o66 P) (.node (o130 P) (.node (o258 P) (.node (o514 P) (.node (o1026 P) .nil .nil) (.node (o1538 P) .nil .nil)) (.node (o770 P) (.node (o1282 P) .nil .nil) (.node (o1794 P) .nil .nil))) (.node (o386 P) (.node (o642 P) (.node (o1154 P) .nil .nil) (.node (o1666 P) .nil .nil)) (.node (o898 P) (.node (o1410 P) .nil .nil) .nil))) (.node (o194 P) (.node (o322 P) (.node (o578 P) (.node (o1090 P) .nil .nil) (.node (o1602 P) .nil .nil)) (.node (o834 P) (.node (o1346 P) .nil .nil) (.node (o1858 P) .nil .nil))) (.node (o450 P) (.node (o706 P) (.node (o1218 P) .nil .nil) (.node (o1730 P) .nil .nil)) (.node (o962 P) (.node (o1474 P) .nil .nil) .nil)))) (.node (o98 P) (.node (o162 P) (.node (o290 P) (.node (o546 P) (.node (o1058 P) .nil .nil) (.node (o1570 P) .nil .nil)) (.node (o802 P) (.node (o1314 P) .nil .nil) (.node (o1826 P) .nil .nil))) (.node (o418 P) (.node (o674 P) (.node (o1186 P) .nil .nil) (.node (o1698 P) .nil .nil)) (.node (o930 P) (.node (o1442 P) .nil .nil) .nil))) (.node (o226 P) (.node (o354 P) (.node (o610 P) (.node (o1122 P) .nil .nil) (.node (o1634 P) .nil .nil)) (.node (o866 P) (.node (o1378 P) .nil .nil) .nil)) (.node (o482 P) (.node (o738 P) (.node (o1250 P) .nil .nil) (.node (o1762 P) .nil .nil)) (.node (o994 P) (.node (o1506 P) .nil .nil) .nil)))))
def tfin_50 (P : Params) : BT := (.node (o50 P) (.node (o82 P) (.node (o146 P) (.node (o274 P) (.node (o530 P) (.node (o1042 P) .nil .nil) (.node (o1554 P) .nil .nil)) (.node (o786 P) (.node (o1298 P) .nil .nil) (.node (o1810 P) .nil .nil))) (.node (o402 P) (.node (o658 P) (.node (o1170 P) .nil .nil) (.node (o1682 P) .nil .nil)) (.node (o914 P) (.node (o1426 P) .nil .nil) .nil))) (.node (o210 P) (.node (o338 P) (.node (o594 P) (.node (o1106 P) .nil .nil) (.node (o1618 P) .nil .nil)) (.node (o850 P) (.node (o1362 P) .nil .nil) .nil)) (.node (o466 P) (.node (o722 P) (.node (o1234 P) .nil .nil) (.node (o1746 P) .nil .nil)) (.node (o978 P) (.node (o1490 P) .nil .nil) .nil)))) (.node (o114 P) (.node (o178 P) (.node (o306 P) (.node (o562 P) (.node (o1074 P) .nil .nil) (.node (o1586 P) .nil .nil)) (.node (o818 P) (.node (o1330 P) .nil .nil) (.node (o1842 P) .nil .nil))) (.node (o434 P) (.node (o690 P) (.node (o1202 P) .nil .nil) (.node (o1714 P) .nil .nil)) (.node (o946 P) (.node (o1458 P) .nil .nil) .nil))) (.node (o242 P) (.node (o370 P) (.node (o626 P) (.node (o1138 P) .nil .nil) (.node (o1650 P) .nil .nil)) (.node (o882 P) (.node (o1394 P) .nil .nil) .nil)) (.node (o498 P) (.node (o754 P) (.node (o1266 P) .nil .nil) (.node (o1778 P) .nil .nil)) (.node (o1010 P) (.node (o1522 P) .nil .nil) .nil)))))
def tfin_42 (P : Params) : BT := (.node (o42 P) (.node (o74 P) (.node (o138 P) (.node (o266 P) (.node (o522 P) (.node (o1034 P) .nil .nil) (.node (o1546 P) .nil .nil)) (.node (o778 P) (.node (o1290 P) .nil .nil) (.node (o1802 P) .nil .nil))) (.node (o394 P) (.node (o650 P) (.node (o1162 P) .nil .nil) (.node (o1674 P) .nil .nil)) (.node (o906 P) (.node (o1418 P) .nil .nil) .nil))) (.node (o202 P) (.node (o330 P) (.node (o586 P) (.node (o1098 P) .nil .nil) (.node (o1610 P) .nil .nil)) (.node (o842 P) (.node (o1354 P) .nil .nil) (.node (o1866 P) .nil .nil))) (.node (o458 P) (.node (o714 P) (.node (o1226 P) .nil .nil) (.node (o1738 P) .nil .nil)) (.node (o970 P) (.node (o1482 P) .nil .nil) .nil)))) (.node (o106 P) (.node (o170 P) (.node (o298 P) (.node (o554 P) (.node (o1066 P) .nil .nil) (.node (o1578 P) .nil .nil)) (.node (o810 P) (.node (o1322 P) .nil .nil) (.node (o1834 P) .nil .nil))) (.node (o426 P) (.node (o682 P) (.node (o1194 P) .nil .nil) (.node (o1706 P) .nil .nil)) (.node (o938 P) (.node (o1450 P) .nil .nil) .nil))) (.node (o234 P) (.node (o362 P) (.node (o618 P) (.node (o1130 P) .nil .nil) (.node (o1642 P) .nil .nil)) (.node (o874 P) (.node (o1386 P) .nil .nil) .nil)) (.node (o490 P) (.node (o746 P) (.node (o1258 P) .nil .nil) (.node (o1770 P) .nil .nil)) (.node (o1002 P) (.node (o1514 P) .nil .nil) .nil)))))
def tfin_58 (P : Params) : BT := (.node (o58 P) (.node (o90 P) (.node (o154 P) (.node (o282 P) (.node (o538 P) (.node (o1050 P) .nil .nil) (.node (o1562 P) .nil .nil)) (.node (o794 P) (.node (o1306 P) .nil .nil) (.node (o1818 P) .nil .nil))) (.node (o410 P) (.node (o666 P) (.node (o1178 P) .nil .nil) (.node (o1690 P) .nil .nil)) (.node (o922 P) (.node (o1434 P) .nil .nil) .nil))) (.node (o218 P) (.node (o346 P) (.node (o602 P) (.node (o1114 P) .nil .nil) (.node (o1626 P) .nil .nil)) (.node (o858 P) (.node (o1370 P) .nil .nil) .nil)) (.node (o474 P) (.node (o730 P) (.node (o1242 P) .nil .nil) (.node (o1754 P) .nil .nil)) (.node (o986 P) (.node (o1498 P) .nil .nil) .nil)))) (.node (o122 P) (.node (o186 P) (.node (o314 P) (.node (o570 P) (.node (o1082 P) .nil .nil) (.node (o1594 P) .nil .nil)) (.node (o826 P) (.node (o1338 P) .nil .nil) (.node (o1850 P) .nil .nil))) (.node (o442 P) (.node (o698 P) (.node (o1210 P) .nil .nil) (.node (o1722 P) .nil .nil)) (.node (o954 P) (.node (o1466 P) .nil .nil) .nil))) (.node (o250 P) (.node (o378 P) (.node (o634 P) (.node (o1146 P) .nil .nil) (.node (o1658 P) .nil .nil)) (.node (o890 P) (.node (o1402 P) .nil .nil) .nil)) (.node (o506 P) (.node (o762 P) (.node (o1274 P) .nil .nil) (.node (o1786 P) .nil .nil)) (.node (o1018 P) (.node (o1530 P) .nil .nil) .nil)))))
def tfin_38 (P : Params) : BT := (.node (o38 P) (.node (o70 P) (.node (o134 P) (.node (o262 P) (.node (o518 P) (.node (o1030 P) .nil .nil) (.node (o1542 P) .nil .nil)) (.node (o774 P) (.node (o1286 P) .nil .nil) (.node (o1798 P) .nil .nil))) (.node (o390 P) (.node (o646 P) (.node (o1158 P) .nil .nil) (.node (o1670 P) .nil .nil)) (.node (o902 P) (.node (o1414 P) .nil .nil) .nil))) (.node (o198 P) (.node (o326 P) (.node (o582 P) (.node (o1094 P) .nil .nil) (.node (o1606 P) .nil .nil)) (.node (o838 P) (.node (o1350 P) .nil .nil) (.node (o1862 P) .nil .nil))) (.node (o454 P) (.node (o710 P) (.node (o1222 P) .nil .nil) (.node (o1734 P) .nil .nil)) (.node (o966 P) (.node (o1478 P) .nil .nil) .nil)))) (.node (o102 P) (.node (o166 P) (.node (o294 P) (.node (o550 P) (.node (o1062 P) .nil .nil) (.node (o1574 P) .nil .nil)) (.node (o806 P) (.node (o1318 P) .nil .nil) (.node (o1830 P) .nil .nil))) (.node (o422 P) (.node (o678 P) (.node (o1190 P) .nil .nil) (.node (o1702 P) .nil .nil)) (.node (o934 P) (.node (o1446 P) .nil .nil) .nil))) (.node (o230 P) (.node (o358 P) (.node (o614 P) (.node (o1126 P) .nil .nil) (.node (o1638 P) .nil .nil)) (.node (o870 P) (.node (o1382 P) .nil .nil) .nil)) (.node (o486 P) (.node (o742 P) (.node (o1254 P) .nil .nil) (.node (o1766 P) .nil .nil)) (.node (o998 P) (.node (o1510 P) .nil .nil) .nil)))))
def tfin_54 (P : Params) : BT := (.node (o54 P) (.node (o86 P) (.node (o150 P) (.node (o278 P) (.node (o534 P) (.node (o1046 P) .nil .nil) (.node (o1558 P) .nil .nil)) (.node (o790 P) (.node (o1302 P) .nil .nil) (.node (o1814 P) .nil .nil))) (.node (o406 P) (.node (o662 P) (.node (o1174 P) .nil .nil) (.node (o1686 P) .nil .nil)) (.node (o918 P) (.node (o1430 P) .nil .nil) .nil))) (.node (o214 P) (.node (o342 P) (.node (o598 P) (.node (o1110 P) .nil .nil) (.node (o1622 P) .nil .nil)) (.node (o854 P) (.node (o1366 P) .nil .nil) .nil)) (.node (o470 P) (.node (o726 P) (.node (o1238 P) .nil .nil) (.node (o1750 P) .nil .nil)) (.node (o982 P) (.node (o1494 P) .nil .nil) .nil)))) (.node (o118 P) (.node (o182 P) (.node (o310 P) (.node (o566 P) (.node (o1078 P) .nil .nil) (.node (o1590 P) .nil .nil)) (.node (o822 P) (.node (o1334 P) .nil .nil) (.node (o1846 P) .nil .nil))) (.node (o438 P) (.node (o694 P) (.node (o1206 P) .nil .nil) (.node (o1718 P) .nil .nil)) (.node (o950 P) (.node (o1462 P) .nil .nil) .nil))) (.node (o246 P) (.node (o374 P) (.node (o630 P) (.node (o1142 P) .nil .nil) (.node (o1654 P) .nil .nil)) (.node (o886 P) (.node (o1398 P) .nil .nil) .nil)) (.node (o502 P) (.node (o758 P) (.node (o1270 P) .nil .nil) (.node (o1782 P) .nil .nil)) (.node (o1014 P) (.node (o1526 P) .nil .nil) .nil)))))
def tfin_46 (P : Params) : BT := (.node (o46 P) (.node (o78 P) (.node (o142 P) (.node (o270 P) (.node (o526 P) (.node (o1038 P) .nil .nil) (.node (o1550 P) .nil .nil)) (.node (o782 P) (.node (o1294 P) .nil .nil) (.node (o1806 P) .nil .nil))) (.node (o398 P) (.node (o654 P) (.node (o1166 P) .nil .nil) (.node (o1678 P) .nil .nil)) (.node (o910 P) (.node (o1422 P) .nil .nil) .nil))) (.node (o206 P) (.node (o334 P) (.node (o590 P) (.node (o1102 P) .nil .nil) (.node (o1614 P) .nil .nil)) (.node (o846 P) (.node (o1358 P) .nil .nil) (.node (o1870 P) .nil .nil))) (.node (o462 P) (.node (o718 P) (.node (o1230 P) .nil .nil) (.node (o1742 P) .nil .nil)) (.node (o974 P) (.node (o1486 P) .nil .nil) .nil)))) (.node (o110 P) (.node (o174 P) (.node (o302 P) (.node (o558 P) (.node (o1070 P) .nil .nil) (.node (o1582 P) .nil .nil)) (.node (o814 P) (.node (o1326 P) .nil .nil) (.node (o1838 P) .nil .nil))) (.node (o430 P) (.node (o686 P) (.node (o1198 P) .nil .nil) (.node (o1710 P) .nil .nil)) (.node (o942 P) (.node (o1454 P) .nil .nil) .nil))) (.node (o238 P) (.node (o366 P) (.node (o622 P) (.node (o1134 P) .nil .nil) (.node (o1646 P) .nil .nil)) (.node (o878 P) (.node (o1390 P) .nil .nil) .nil)) (.node (o494 P) (.node (o750 P) (.node (o1262 P) .nil .nil) (.node (o1774 P) .nil .nil)) (.node (o1006 P) (.node (o1518 P) .nil .nil) .nil)))))
def tfin_62 (P : Params) : BT := (.node (o62 P) (.node (o94 P) (.node (o158 P) (.node (o286 P) (.node (o542 P) (.node (o1054 P) .nil .nil) (.node (o1566 P) .nil .nil)) (.node (o798 P) (.node (o1310 P) .nil .nil) (.node (o1822 P) .nil .nil))) (.node (o414 P) (.node (o670 P) (.node (o1182 P) .nil .nil) (.node (o1694 P) .nil .nil)) (.node (o926 P) (.node (o1438 P) .nil .nil) .nil))) (.node (o222 P) (.node (o350 P) (.node (o606 P) (.node (o1118 P) .nil .nil) (.node (o1630 P) .nil .nil)) (.node (o862 P) (.node (o1374 P) .nil .nil) .nil)) (.node (o478 P) (.node (o734 P) (.node (o1246 P) .nil .nil) (.node (o1758 P) .nil .nil)) (.node (o990 P) (.node (o1502 P) .nil .nil) .nil)))) (.node (o126 P) (.node (o190 P) (.node (o318 P) (.node (o574 P) (.node (o1086 P) .nil .nil) (.node (o1598 P) .nil .nil)) (.node (o830 P) (.node (o1342 P) .nil .nil) (.node (o1854 P) .nil .nil))) (.node (o446 P) (.node (o702 P) (.node (o1214 P) .nil .nil) (.node (o1726 P) .nil .nil)) (.node (o958 P) (.node (o1470 P) .nil .nil) .nil))) (.node (o254 P) (.node (o382 P) (.node (o638 P) (.node (o1150 P) .nil .nil) (.node (o1662 P) .nil .nil)) (.node (o894 P) (.node (o1406 P) .nil .nil) .nil)) (.node (o510 P) (.node (o766 P) (.node (o1278 P) .nil .nil) (.node (o1790 P) .nil .nil)) (.node (o1022 P) (.node (o1534 P) .nil .nil) .nil)))))
def tfin (P : Params) : BT := (.node (o0 P) (.node (o1 P) (.node (o3_6 P) (.node (o7 P) (.node (o15 P) (tfin_31 P) (tfin_47 P)) (.node (o23 P) (tfin_39 P) (tfin_55 P))) (.node (o11 P) (.node (o19 P) (tfin_35 P) (tfin_51 P)) (.node (o27 P) (tfin_43 P) (tfin_59 P)))) (.node (o5 P) (.node (o9 P) (.node (o17 P) (tfin_33 P) (tfin_49 P)) (.node (o25 P) (tfin_41 P) (tfin_57 P))) (.node (o13 P) (.node (o21 P) (tfin_37 P) (tfin_53 P)) (.node (o29 P) (tfin_45 P) (tfin_61 P))))) (.node (o2_3 P) (.node (o4 P) (.node (o8 P) (.node (o16 P) (tfin_32 P) (tfin_48 P)) (.node (o24 P) (tfin_40 P) (tfin_56 P))) (.node (o12_6 P) (.node (o20 P) (tfin_36 P) (tfin_52 P)) (.node (o28 P) (tfin_44 P) (tfin_60 P)))) (.node (o6 P) (.node (o10 P) (.node (o18 P) (tfin_34 P) (tfin_50 P)) (.node (o26 P) (tfin_42 P) (tfin_58 P))) (.node (o14 P) (.node (o22 P) (tfin_38 P) (tfin_54 P)) (.node (o30 P) (tfin_46 P) (tfin_62 P))))))
def lfin : Life := ⟨[], [], [], 0, [], [], false, ⟨[]⟩, [], 0, false, false, false, 0, [2000, 10, 10], false, 0, true, [], [], 0, false⟩
def Sfin (w : World) (os : OsState) : SharedT := ⟨tfin w.params, 1871, lfin, ⟨[]⟩, ⟨0, 0, 0, 0⟩, 2940, os⟩
def env : Env := { scope := prog.main.scope, locals := mainNs, globals := mainNs, cells := [], code := .ref 13, frame := some 14 }
abbrev body : List Stmt := behindTheImports prog
abbrev cd : Code := .body body env
def g20 : List Stmt := (prog.main.body.drop 0).take 20
def g121 : List Stmt := (prog.main.body.drop 20).take 101
def g204 : List Stmt := (prog.main.body.drop 121).take 83
def g272 : List Stmt := (prog.main.body.drop 204).take 68
theorem seg20 (w : World) : SegEq prog env cd ⟨0, 0, 0, 0⟩ 11 (some (.ref 6)) 4228 g20 Sblk S20 ⟨0, 0, 0, 0⟩ ⟨75, 0, 75, 8⟩ w := by
  intro os
  kernel_rfl
theorem seg121_false (w : World) : SegEq prog env cd ⟨0, 0, 0, 0⟩ 11 (some (.ref 6)) 3747 g121 S20 S121 ⟨75, 0, 75, 8⟩ ⟨442, 0, 468, 94⟩ (w.withFollow "special-get-raises" false) := by
  intro os
  kernel_rfl
theorem seg121_true (w : World) : SegEq prog env cd ⟨0, 0, 0, 0⟩ 11 (some (.ref 6)) 3747 g121 S20 S121 ⟨75, 0, 75, 8⟩ ⟨442, 0, 468, 94⟩ (w.withFollow "special-get-raises" true) := by
  intro os
  kernel_rfl
theorem seg121 (w : World) : SegEq prog env cd ⟨0, 0, 0, 0⟩ 11 (some (.ref 6)) 3747 g121 S20 S121 ⟨75, 0, 75, 8⟩ ⟨442, 0, 468, 94⟩ w := byRow2 "special-get-raises" seg121_false seg121_true w
theorem seg204 (w : World) : SegEq prog env cd ⟨0, 0, 0, 0⟩ 11 (some (.ref 6)) 3214 g204 S121 S204 ⟨442, 0, 468, 94⟩ ⟨869, 0, 889, 16⟩ w := by
  intro os
  kernel_rfl
theorem seg272_false (w : World) : SegEq prog env cd ⟨0, 0, 0, 0⟩ 11 (some (.ref 6)) 3578 g272 S204 S272 ⟨869, 0, 889, 16⟩ ⟨1299, 0, 1308, 57⟩ (w.withFollow "special-get-raises" false) := by
  intro os
  kernel_rfl
theorem seg272_true (w : World) : SegEq prog env cd ⟨0, 0, 0, 0⟩ 11 (some (.ref 6)) 3578 g272 S204 S272 ⟨869, 0, 889, 16⟩ ⟨1299, 0, 1308, 57⟩ (w.withFollow "special-get-raises" true) := by
  intro os
  kernel_rfl
theorem seg272 (w : World) : SegEq prog env cd ⟨0, 0, 0, 0⟩ 11 (some (.ref 6)) 3578 g272 S204 S272 ⟨869, 0, 889, 16⟩ ⟨1299, 0, 1308, 57⟩ w := byRow2 "special-get-raises" seg272_false seg272_true w
end K72
end
end

section
set_option Elab.async false
set_option linter.all false
set_option maxRecDepth 100000
set_option maxHeartbeats 0
noncomputable section
namespace K72
open PySem PySem.W PySem.Calls PyProof.Rows HandSHeadRun KHead
theorem fin_run (w : World) (os : OsState) : goF (stepQ (denQ tabQ) prog w) 11 (some (.ref 6)) 2 (S272 w os) ⟨doneF .next, cd, ⟨1299, 0, 1308, 57⟩, [topFrame ⟨0, 0, 0, 0⟩]⟩ = some (Sfin w os) := by
  kernel_rfl
theorem pre_run (w : World) (os : OsState) : (match putAll (boot_heap w.params).objs.toList .nil 0 with
    | some (t, n) => frNat n fun n => topF (stepQ (denQ tabQ) prog w) 11 (some (.ref 6)) 12 (bootT w os (t, n)) (topStub prog)
    | none => none) = some (Spre w os, ⟨denQ tabQ cd, cd, ⟨0, 0, 0, 0⟩, [topFrame ⟨0, 0, 0, 0⟩]⟩) := by
  kernel_rfl
theorem blk_run (w : World) (os : OsState) : segF (stepQ (denQ tabQ) prog w) 11 (some (.ref 6)) 1 1 (Spre w os) (blockOf body env cd ⟨0, 0, 0, 0⟩ [topFrame ⟨0, 0, 0, 0⟩]) = some (.next, Sblk w os, cd, ⟨0, 0, 0, 0⟩) := by
  kernel_rfl
theorem body_eq : body = g20 ++ (g121 ++ (g204 ++ (g272 ++ ([])))) := by
  kernel_rfl
theorem rest_run : RunsFrom prog env cd ⟨0, 0, 0, 0⟩ 11 (some (.ref 6)) (g20 ++ (g121 ++ (g204 ++ (g272 ++ ([]))))) Sblk Sfin ⟨0, 0, 0, 0⟩ (4228 + (3747 + (3214 + (3578 + 2)))) := RunsFrom.seg seg20 (RunsFrom.seg seg121 (RunsFrom.seg seg204 (RunsFrom.seg seg272 (RunsFrom.done fin_run))))
theorem m0_eq (w : World) : (boot_heap w.params).objs.size = 11 := by
  kernel_rfl
theorem ann_eq (w : World) : bootAnn w = (some (.ref 6)) := by
  kernel_rfl
theorem whole_run (w : World) (os : OsState) : topRun treeTable prog w (boot_heap w.params).objs.size (bootAnn w) (12 + (1 + (4228 + (3747 + (3214 + (3578 + 2)))))) ⟨boot_heap w.params, #[], boot_drawn, boot_toks, os⟩ (topStub prog) = some (Sfin w os).abs :=
  top_run (b := body) (env := env) m0_eq ann_eq pre_run blk_run (by rw [body_eq]; exact rest_run) w os
end K72
end
end

section
set_option Elab.async false
set_option linter.all false
set_option maxRecDepth 100000
set_option maxHeartbeats 0
noncomputable section
namespace K72
open PySem PySem.W PySem.Calls PyProof.Rows HandSHeadRun KHead
abbrev R : OpenRow := OpenLaw.row PySem.Challenge.rw_rulewardens_k72_words_of_commands
abbrev qv : Program := view R.prog [271]
def nm0 : List PySem.Str := ["_wall", "WardError", "BadBook", "BadDevice", "BadWard", "BadText", "TooMany", "BadOnlooker", "OtherFaces", "BadName", "NameTaken", "NoWard", "NotHeard", "NotAlike", "Harmful", "NothingToUndo", "NothingToRedo", "InvalidCommand", "BLANK_commands", "BREAK_commands", "SEMICOLON", "TEXT_WORDS", "LEAST_TEXT_WORDS", "WORD_COUNTS"]
def nm1 : List PySem.Str := ["command_words", "line_of_text", "BLANK_booktexts", "BREAK_booktexts", "COMMA", "NONE", "DIGITS", "LETTERS_booktexts", "MOST_DIGITS", "ROOMS_WORD", "FIRST_WORD", "MOVE_WORD", "FACE_WORD", "STATE_WORD", "STEP_WORD", "YES", "NO", "MOVE_WORDS", "THREE_WORDS", "STEP_WORDS", "whole_in", "wholes_in", "list_in", "heard_in"]
def nm2 : List PySem.Str := ["word_of_list", "word_of_heard", "rooms_in", "first_in", "move_in", "face_in", "state_in", "step_in", "lines_in", "lines_of_kind", "lines_of_book", "lines_of_device", "lines_of_faces", "AWAY", "MOST_ROOM", "MOST_FACE", "MOVE_PARTS", "is_integer", "is_between", "are_ascending", "is_heard", "are_rooms", "is_move", "check_moves"]
def nm3 : List PySem.Str := ["book_lines", "Book", "has_somebody", "rooms_seen", "is_move_open", "open_moves", "moves_by_origin", "has_open_move", "some_of", "choices", "heard_of", "where_behind", "outcomes", "outcomes_found", "PAIR", "STEP_PARTS", "SILENCE_devices", "are_faces", "is_face", "are_shown", "is_step", "is_later", "are_steps", "are_others"]
def nm4 : List PySem.Str := ["device_lines", "Device", "silent_ticks", "first_lot", "answers", "lot_after", "lots_along", "lot_behind", "cut_heard", "answers_by_ears", "SHUT", "BELL", "OPEN", "KEPT_wards", "HARM", "faces_told", "Ward", "first_picture", "choices_in", "led_by", "has_harm", "next_pictures", "first_runs", "judge_ward"]
def nm5 : List PySem.Str := ["SILENCE_plays", "NO_LOT", "chosen_faces", "is_safe", "safe_faces", "is_waiting", "Spot", "Board", "KEPT_keepers", "REFUSED_keepers", "LOST", "SILENT", "lots_played", "Rounds", "lots_led", "kept_paper", "judge_keeping", "can_keep", "KEPT_ears", "REFUSED_ears", "MOST_LOTS", "sublists", "all_ears", "is_within_set"]
def nm6 : List PySem.Str := ["least_among", "least_ears", "BARRED", "NO_BAR", "GREATEST", "barred_book", "bars_of_size", "bars_judged", "bars_paper", "first_part", "fewest_bars", "shares", "first_crowds", "where_of", "goings_from", "ways_of_pair", "is_log", "states_along", "state_behind", "can_come", "crowd_ways", "crowds_along", "crowds_of_log", "people_of_log"]
def nm7 : List PySem.Str := ["is_one_face", "rows_behind", "logs_to_rows", "log_beside", "check_classes", "own_letters", "class_shown", "sights_behind", "is_lot_empty", "is_lot_inhabited", "EMPTY", "is_known", "lots_of_pictures", "first_learned", "are_classes", "put_anew", "Onlooker", "is_sure_lot", "Outlook", "rounds_for", "gap_for", "ALL_HARMS", "SURE_HARMS", "LEARNED"]
def nm8 : List PySem.Str := ["device_read", "ward_read", "are_harms", "LETTERS_office", "MOST_LETTERS", "HARMS", "is_name", "harms_kept", "put_through", "Office", "DONE", "REFUSED_WORD", "NEVER_WORD", "NONE_WORD", "MANY_WORD", "harms_in", "letters_in", "device_told", "words_or_none", "number_or_never", "yes_or_no", "opened", "closed", "renewed"]
def nm9 : List PySem.Str := ["replaced_by", "heard_now", "undone", "made_again", "names_told", "device_line", "ward_line", "face_told", "log_told", "lot_told", "people_told", "keeps_told", "can_told", "rounds_told_of", "gap_told_of", "ears_told_of", "bars_told", "learned_told", "ANSWERS", "Console", "_law_start", "_law_draw", "_law_pick", "_law_name"]
def nm10 : List PySem.Str := ["_law_text", "_law_line", "_law_bent", "_law_due", "_law_heard", "_law_said", "_law_right"]
def names : List PySem.Str := nm0 ++ nm1 ++ nm2 ++ nm3 ++ nm4 ++ nm5 ++ nm6 ++ nm7 ++ nm8 ++ nm9 ++ nm10

theorem look1 (w : World) (os : OsState) : looksF R.prog (boot_heap w.params) (Sfin w os).abs = true := by
  kernel_rfl
theorem look2 (w : World) (os : OsState) : openSeen qv names (importedModules R.prog.main.body) (fun s => xlAt qv [] s && recOk R.toRowW.records s) true (Sfin w os).abs = openGood qv names := by
  rw [seenQ_eq]
  kernel_rfl
end K72
end
end

section
set_option Elab.async false
set_option linter.all false
set_option maxRecDepth 100000
set_option maxHeartbeats 4000000
namespace K72
open PySem PySem.Spec PyProof.Rows
open PySem.TablesWhole (wSs wModule wProgram holds gather noTwice)
theorem wss_app (top : Scope) (cx : TablesWhole.Ctx) (sc : Scope) : ∀ a b : List Stmt, wSs holds top cx sc (a ++ b) = (wSs holds top cx sc a && wSs holds top cx sc b)
  | [], b => (Bool.true_and _).symm
  | s :: r, b => by
    have ih := wss_app top cx sc r b
    show (TablesWhole.wS holds top cx sc s && wSs holds top cx sc (r ++ b)) = ((TablesWhole.wS holds top cx sc s && wSs holds top cx sc r) && wSs holds top cx sc b)
    rw [ih, Bool.and_assoc]
abbrev msc : Scope := prog.main.scope
def once (ns : List (Str × NameKind)) (k : ScopeKind) (n : Str) : Bool := match ns.filter (·.1 == n) with
    | [_] => true
    | [(_, a), (_, b)] => k == .class && a != .free && b == .free
    | _ => false
theorem noTwice_eq (sc : Scope) : noTwice sc = sc.names.all fun p => once sc.names sc.kind p.1 := rfl
theorem all_cut {α : Type} (f : α → Bool) (k : Nat) (l : List α) : l.all f = ((l.take k).all f && (l.drop k).all f) := by
  conv => lhs; rw [← List.take_append_drop k l]
  rw [List.all_append]
abbrev on1 (p : Str × NameKind) : Bool := once msc.names msc.kind p.1
theorem tw_n1 : ((msc.names.drop 0).take 120).all on1 = true := by kernel_rfl
theorem tw_n2 : ((msc.names.drop 120).take 120).all on1 = true := by kernel_rfl
theorem tw_n3 : ((msc.names.drop 240).take 120).all on1 = true := by kernel_rfl
theorem tw_n4 : ((msc.names.drop 360).take 120).all on1 = true := by kernel_rfl
theorem tw_n5 : (msc.names.drop 480).all on1 = true := by kernel_rfl
theorem tw_told : wSs gather msc ⟨msc, [], [], [], none⟩ msc prog.main.body = [] := by kernel_rfl
abbrev mcx : TablesWhole.Ctx := ⟨msc, [], [], [], none⟩
theorem tw_b1 : wSs holds msc mcx msc ((prog.main.body.drop 0).take 70) = true := by kernel_rfl
theorem tw_b2 : wSs holds msc mcx msc ((prog.main.body.drop 70).take 70) = true := by kernel_rfl
theorem tw_b3 : wSs holds msc mcx msc ((prog.main.body.drop 140).take 70) = true := by kernel_rfl
theorem tw_b4 : wSs holds msc mcx msc (prog.main.body.drop 210) = true := by kernel_rfl
theorem tw_names : noTwice msc = true := by
  rw [noTwice_eq]
  show msc.names.all on1 = true
  rw [all_cut on1 120, show msc.names.take 120 = (msc.names.drop 0).take 120 from rfl, tw_n1, Bool.true_and, all_cut on1 120, List.drop_drop, tw_n2, Bool.true_and, all_cut on1 120, List.drop_drop, tw_n3, Bool.true_and, all_cut on1 120, List.drop_drop, tw_n4, Bool.true_and]
  exact tw_n5
theorem wss_cut (k : Nat) (l : List Stmt) : wSs holds msc mcx msc l = (wSs holds msc mcx msc (l.take k) && wSs holds msc mcx msc (l.drop k)) := by
  rw [← wss_app, List.take_append_drop]
theorem tw_body : wSs holds msc mcx msc prog.main.body = true := by
  rw [wss_cut 70, show prog.main.body.take 70 = (prog.main.body.drop 0).take 70 from rfl, tw_b1, Bool.true_and, wss_cut 70, List.drop_drop, tw_b2, Bool.true_and, wss_cut 70, List.drop_drop, tw_b3, Bool.true_and]
  exact tw_b4
theorem tw_of (p : Program) (h1 : p.modules = []) (h2 : p.parses = []) (h3 : p.harvested = []) (told : wSs gather p.main.scope ⟨p.main.scope, [], [], [], none⟩ p.main.scope p.main.body = [])
    (n : noTwice p.main.scope = true) (b : wSs holds p.main.scope ⟨p.main.scope, [], [], [], none⟩ p.main.scope p.main.body = true) : p.tablesWhole = true := by
  have m : wModule holds p.main = true := by
    show (true && (noTwice p.main.scope && (wSs holds p.main.scope ⟨p.main.scope, [], wSs gather p.main.scope ⟨p.main.scope, [], [], [], none⟩ p.main.scope p.main.body, [], none⟩ p.main.scope p.main.body && true))) = true
    rw [told, n, b]
    rfl
  unfold Program.tablesWhole wProgram
  rw [h1, h2, h3, m]
  rfl
theorem tw_all : prog.tablesWhole = true := tw_of prog (by kernel_rfl) (by kernel_rfl) (by kernel_rfl) tw_told tw_names tw_body
end K72
end

section
set_option Elab.async false
set_option linter.all false
set_option maxRecDepth 100000
set_option maxHeartbeats 4000000
namespace K72
open PySem PySem.W PyProof.Rows L2
def Kf (P : Params) : Frag := [(2, o2_3 P), (3, o3_6 P), (30, o30 P), (31, o31 P), (331, o331 P), (332, o332 P), (335, o335 P), (336, o336 P), (338, o338 P), (339, o339 P), (340, o340 P), (341, o341 P), (342, o342 P), (343, o343 P), (344, o344 P), (1443, o1443 P), (1444, o1444 P), (1445, o1445 P), (1446, o1446 P), (1447, o1447 P), (1448, o1448 P), (1449, o1449 P), (1566, o1566 P), (1567, o1567 P), (1760, o1760 P), (1761, o1761 P), (1762, o1762 P), (1763, o1763 P), (1764, o1764 P), (1765, o1765 P), (1766, o1766 P), (1775, o1775 P), (1776, o1776 P), (1777, o1777 P), (1778, o1778 P), (1779, o1779 P), (1780, o1780 P), (1781, o1781 P), (1783, o1783 P), (1784, o1784 P), (1789, o1789 P), (1790, o1790 P), (1791, o1791 P), (1792, o1792 P), (1793, o1793 P), (1794, o1794 P), (1795, o1795 P), (1796, o1796 P), (1797, o1797 P), (1798, o1798 P), (1799, o1799 P), (1800, o1800 P), (1801, o1801 P), (1802, o1802 P), (1803, o1803 P), (1804, o1804 P), (1805, o1805 P), (1806, o1806 P), (1807, o1807 P), (1808, o1808 P), (1809, o1809 P), (1810, o1810 P), (1811, o1811 P), (1812, o1812 P), (1813, o1813 P), (1814, o1814 P), (1815, o1815 P), (1816, o1816 P), (1817, o1817 P), (1818, o1818 P), (1819, o1819 P), (1820, o1820 P), (1821, o1821 P), (1822, o1822 P), (1823, o1823 P), (1824, o1824 P), (1825, o1825 P), (1826, o1826 P), (1827, o1827 P), (1828, o1828 P), (1829, o1829 P), (1830, o1830 P), (1831, o1831 P), (1832, o1832 P), (1833, o1833 P), (1834, o1834 P), (1835, o1835 P), (1836, o1836 P), (1837, o1837 P), (1838, o1838 P), (1839, o1839 P), (1840, o1840 P), (1841, o1841 P), (1842, o1842 P), (1843, o1843 P), (1844, o1844 P), (1845, o1845 P), (1846, o1846 P), (1847, o1847 P), (1848, o1848 P), (1849, o1849 P), (1850, o1850 P), (1851, o1851 P), (1852, o1852 P), (1853, o1853 P), (1854, o1854 P), (1855, o1855 P), (1856, o1856 P), (1857, o1857 P), (1858, o1858 P), (1859, o1859 P), (1860, o1860 P), (1861, o1861 P), (1862, o1862 P), (1863, o1863 P), (1864, o1864 P), (1865, o1865 P), (1866, o1866 P), (1867, o1867 P), (1868, o1868 P), (1869, o1869 P), (1870, o1870 P)]
def kas : List Addr := [2, 3, 30, 31, 331, 332, 335, 336, 338, 339, 340, 341, 342, 343, 344, 1443, 1444, 1445, 1446, 1447, 1448, 1449, 1566, 1567, 1760, 1761, 1762, 1763, 1764, 1765, 1766, 1775, 1776, 1777, 1778, 1779, 1780, 1781, 1783, 1784, 1789, 1790, 1791, 1792, 1793, 1794, 1795, 1796, 1797, 1798, 1799, 1800, 1801, 1802, 1803, 1804, 1805, 1806, 1807, 1808, 1809, 1810, 1811, 1812, 1813, 1814, 1815, 1816, 1817, 1818, 1819, 1820, 1821, 1822, 1823, 1824, 1825, 1826, 1827, 1828, 1829, 1830, 1831, 1832, 1833, 1834, 1835, 1836, 1837, 1838, 1839, 1840, 1841, 1842, 1843, 1844, 1845, 1846, 1847, 1848, 1849, 1850, 1851, 1852, 1853, 1854, 1855, 1856, 1857, 1858, 1859, 1860, 1861, 1862, 1863, 1864, 1865, 1866, 1867, 1868, 1869, 1870]
theorem obs_eq (w : World) (os : OsState) : He.frG (Sfin w os).abs.heap.get? kas = Kf w.params := by
  have e : (Sfin w os).abs.heap.get? = HandSHeadRun.getT (Sfin w os) := funext fun a => (HandSHeadRun.getT_eq _ a).symm
  rw [e]
  kernel_rfl
def hk : PySem.W.Hook where
  α := Frag
  obs := fun s => He.frG s.heap.get? kas
  val := fun w => Kf w.params
  says := fun w h => (Kf w.params).In h
  of := fun w s e => by
    have x : (He.frG s.heap.get? kas).In s.heap := He.frG_in
    rw [e] at x
    exact x
  keeps := fun _ _ _ x k => PySem.W.Frag.In.keeps x k
section
variable (P : Params)
theorem g_command_words : nsIn (Kf P) mainGlobals "command_words" = some (some (.ref 344)) := by kernel_rfl
theorem g__law_start : nsIn (Kf P) mainGlobals "_law_start" = some (some (.ref 1795)) := by kernel_rfl
theorem g__law_draw : nsIn (Kf P) mainGlobals "_law_draw" = some (some (.ref 1802)) := by kernel_rfl
theorem g__law_pick : nsIn (Kf P) mainGlobals "_law_pick" = some (some (.ref 1809)) := by kernel_rfl
theorem g__law_name : nsIn (Kf P) mainGlobals "_law_name" = some (some (.ref 1816)) := by kernel_rfl
theorem g__law_text : nsIn (Kf P) mainGlobals "_law_text" = some (some (.ref 1823)) := by kernel_rfl
theorem g__law_line : nsIn (Kf P) mainGlobals "_law_line" = some (some (.ref 1830)) := by kernel_rfl
theorem g__law_bent : nsIn (Kf P) mainGlobals "_law_bent" = some (some (.ref 1837)) := by kernel_rfl
theorem g__law_due : nsIn (Kf P) mainGlobals "_law_due" = some (some (.ref 1844)) := by kernel_rfl
theorem g__law_heard : nsIn (Kf P) mainGlobals "_law_heard" = some (some (.ref 1851)) := by kernel_rfl
theorem g__law_said : nsIn (Kf P) mainGlobals "_law_said" = some (some (.ref 1858)) := by kernel_rfl
theorem g__law_right : nsIn (Kf P) mainGlobals "_law_right" = some (some (.ref 1865)) := by kernel_rfl
theorem g_law : nsIn (Kf P) mainGlobals "law" = some (some (.ref 1870)) := by kernel_rfl
theorem g_Console : nsIn (Kf P) mainGlobals "Console" = some (some (.ref 1784)) := by kernel_rfl
theorem g_Office : nsIn (Kf P) mainGlobals "Office" = some (some (.ref 1567)) := by kernel_rfl
theorem g_InvalidCommand : nsIn (Kf P) mainGlobals "InvalidCommand" = some (some (.ref 332)) := by kernel_rfl
theorem g_WardError : nsIn (Kf P) mainGlobals "WardError" = some (some (.ref 31)) := by kernel_rfl
theorem g_TEXT_WORDS : nsIn (Kf P) mainGlobals "TEXT_WORDS" = some (some (.ref 335)) := by kernel_rfl
theorem g_WORD_COUNTS : nsIn (Kf P) mainGlobals "WORD_COUNTS" = some (some (.ref 336)) := by kernel_rfl
theorem g_BLANK_commands : nsIn (Kf P) mainGlobals "BLANK_commands" = some (some (.str " " 606)) := by kernel_rfl
theorem g_BREAK_commands : nsIn (Kf P) mainGlobals "BREAK_commands" = some (some (.str "\n" 608)) := by kernel_rfl
theorem g_SEMICOLON : nsIn (Kf P) mainGlobals "SEMICOLON" = some (some (.str ";" 610)) := by kernel_rfl
theorem g_LEAST_TEXT_WORDS : nsIn (Kf P) mainGlobals "LEAST_TEXT_WORDS" = some (some (.int 3 616)) := by kernel_rfl
theorem g_int : nsIn (Kf P) mainGlobals "int" = some none := by kernel_rfl
theorem g_len : nsIn (Kf P) mainGlobals "len" = some none := by kernel_rfl
theorem g_list : nsIn (Kf P) mainGlobals "list" = some none := by kernel_rfl
theorem g_isinstance : nsIn (Kf P) mainGlobals "isinstance" = some none := by kernel_rfl
theorem g_str : nsIn (Kf P) mainGlobals "str" = some none := by kernel_rfl
theorem g_repr : nsIn (Kf P) mainGlobals "repr" = some none := by kernel_rfl
theorem g_tuple : nsIn (Kf P) mainGlobals "tuple" = some none := by kernel_rfl
theorem g_range : nsIn (Kf P) mainGlobals "range" = some none := by kernel_rfl
abbrev s_command_words : Stmt := top 26
def fd_command_words : FuncData := PySem.W.fnOf "command_words" "command_words" (defArgs s_command_words) (defBody s_command_words) (defScope s_command_words) (.none) (.none) (.none) (.str "rulewardens.commands" 604) none (.ref 343) (.none)
theorem F_command_words : Fun (Kf P) "command_words" "command_words" s_command_words 344 fd_command_words := fun_mk (oc := .type "function") (od := none) (osl := ⟨[]⟩) (st := s_command_words) (by kernel_rfl) (by kernel_rfl) (by kernel_rfl)
theorem b_command_words : Binds (Kf P) fd_command_words ["thing"] [] := (F_command_words P).binds (ps := ["thing"]) fun _ _ _ _ _ _ us hl => match us, hl with | [_], _ => rfl
theorem sc_command_words : FnScope ["thing", "words"] ["thing"] (defScope s_command_words) := ⟨rfl, rfl, rfl, by decide +kernel, rfl, by decide +kernel, by decide +kernel⟩
abbrev s__law_start : Stmt := top 260
def fd__law_start : FuncData := PySem.W.fnOf "_law_start" "_law_start" (defArgs s__law_start) (defBody s__law_start) (defScope s__law_start) (.none) (.none) (.none) (.str "law_rulewardens_k72_words_of_commands" 2830) none (.ref 1794) (.none)
theorem F__law_start : Fun (Kf P) "_law_start" "_law_start" s__law_start 1795 fd__law_start := fun_mk (oc := .type "function") (od := none) (osl := ⟨[]⟩) (st := s__law_start) (by kernel_rfl) (by kernel_rfl) (by kernel_rfl)
theorem b__law_start : Binds (Kf P) fd__law_start ["script"] [] := (F__law_start P).binds (ps := ["script"]) fun _ _ _ _ _ _ us hl => match us, hl with | [_], _ => rfl
theorem sc__law_start : FnScope ["script", "mixed", "cell"] ["script"] (defScope s__law_start) := ⟨rfl, rfl, rfl, by decide +kernel, rfl, by decide +kernel, by decide +kernel⟩
abbrev s__law_draw : Stmt := top 261
def fd__law_draw : FuncData := PySem.W.fnOf "_law_draw" "_law_draw" (defArgs s__law_draw) (defBody s__law_draw) (defScope s__law_draw) (.none) (.none) (.none) (.str "law_rulewardens_k72_words_of_commands" 2830) none (.ref 1801) (.none)
theorem F__law_draw : Fun (Kf P) "_law_draw" "_law_draw" s__law_draw 1802 fd__law_draw := fun_mk (oc := .type "function") (od := none) (osl := ⟨[]⟩) (st := s__law_draw) (by kernel_rfl) (by kernel_rfl) (by kernel_rfl)
theorem b__law_draw : Binds (Kf P) fd__law_draw ["deck", "below"] [] := (F__law_draw P).binds (ps := ["deck", "below"]) fun _ _ _ _ _ _ us hl => match us, hl with | [_, _], _ => rfl
theorem sc__law_draw : FnScope ["deck", "below", "figure", "cell"] ["deck", "below"] (defScope s__law_draw) := ⟨rfl, rfl, rfl, by decide +kernel, rfl, by decide +kernel, by decide +kernel⟩
abbrev s__law_pick : Stmt := top 262
def fd__law_pick : FuncData := PySem.W.fnOf "_law_pick" "_law_pick" (defArgs s__law_pick) (defBody s__law_pick) (defScope s__law_pick) (.none) (.none) (.none) (.str "law_rulewardens_k72_words_of_commands" 2830) none (.ref 1808) (.none)
theorem F__law_pick : Fun (Kf P) "_law_pick" "_law_pick" s__law_pick 1809 fd__law_pick := fun_mk (oc := .type "function") (od := none) (osl := ⟨[]⟩) (st := s__law_pick) (by kernel_rfl) (by kernel_rfl) (by kernel_rfl)
theorem b__law_pick : Binds (Kf P) fd__law_pick ["deck", "some"] [] := (F__law_pick P).binds (ps := ["deck", "some"]) fun _ _ _ _ _ _ us hl => match us, hl with | [_, _], _ => rfl
theorem sc__law_pick : FnScope ["deck", "some"] ["deck", "some"] (defScope s__law_pick) := ⟨rfl, rfl, rfl, by decide +kernel, rfl, by decide +kernel, by decide +kernel⟩
abbrev s__law_name : Stmt := top 263
def fd__law_name : FuncData := PySem.W.fnOf "_law_name" "_law_name" (defArgs s__law_name) (defBody s__law_name) (defScope s__law_name) (.none) (.none) (.none) (.str "law_rulewardens_k72_words_of_commands" 2830) none (.ref 1815) (.none)
theorem F__law_name : Fun (Kf P) "_law_name" "_law_name" s__law_name 1816 fd__law_name := fun_mk (oc := .type "function") (od := none) (osl := ⟨[]⟩) (st := s__law_name) (by kernel_rfl) (by kernel_rfl) (by kernel_rfl)
theorem b__law_name : Binds (Kf P) fd__law_name ["deck"] [] := (F__law_name P).binds (ps := ["deck"]) fun _ _ _ _ _ _ us hl => match us, hl with | [_], _ => rfl
theorem sc__law_name : FnScope ["deck"] ["deck"] (defScope s__law_name) := ⟨rfl, rfl, rfl, by decide +kernel, rfl, by decide +kernel, by decide +kernel⟩
abbrev s__law_text : Stmt := top 264
def fd__law_text : FuncData := PySem.W.fnOf "_law_text" "_law_text" (defArgs s__law_text) (defBody s__law_text) (defScope s__law_text) (.none) (.none) (.none) (.str "law_rulewardens_k72_words_of_commands" 2830) none (.ref 1822) (.none)
theorem F__law_text : Fun (Kf P) "_law_text" "_law_text" s__law_text 1823 fd__law_text := fun_mk (oc := .type "function") (od := none) (osl := ⟨[]⟩) (st := s__law_text) (by kernel_rfl) (by kernel_rfl) (by kernel_rfl)
theorem b__law_text : Binds (Kf P) fd__law_text ["deck"] [] := (F__law_text P).binds (ps := ["deck"]) fun _ _ _ _ _ _ us hl => match us, hl with | [_], _ => rfl
theorem sc__law_text : FnScope ["deck", "some"] ["deck"] (defScope s__law_text) := ⟨rfl, rfl, rfl, by decide +kernel, rfl, by decide +kernel, by decide +kernel⟩
abbrev s__law_line : Stmt := top 265
def fd__law_line : FuncData := PySem.W.fnOf "_law_line" "_law_line" (defArgs s__law_line) (defBody s__law_line) (defScope s__law_line) (.none) (.none) (.none) (.str "law_rulewardens_k72_words_of_commands" 2830) none (.ref 1829) (.none)
theorem F__law_line : Fun (Kf P) "_law_line" "_law_line" s__law_line 1830 fd__law_line := fun_mk (oc := .type "function") (od := none) (osl := ⟨[]⟩) (st := s__law_line) (by kernel_rfl) (by kernel_rfl) (by kernel_rfl)
theorem b__law_line : Binds (Kf P) fd__law_line ["deck"] [] := (F__law_line P).binds (ps := ["deck"]) fun _ _ _ _ _ _ us hl => match us, hl with | [_], _ => rfl
theorem sc__law_line : FnScope ["deck", "some", "word", "line"] ["deck"] (defScope s__law_line) := ⟨rfl, rfl, rfl, by decide +kernel, rfl, by decide +kernel, by decide +kernel⟩
abbrev s__law_bent : Stmt := top 266
def fd__law_bent : FuncData := PySem.W.fnOf "_law_bent" "_law_bent" (defArgs s__law_bent) (defBody s__law_bent) (defScope s__law_bent) (.none) (.none) (.none) (.str "law_rulewardens_k72_words_of_commands" 2830) none (.ref 1836) (.none)
theorem F__law_bent : Fun (Kf P) "_law_bent" "_law_bent" s__law_bent 1837 fd__law_bent := fun_mk (oc := .type "function") (od := none) (osl := ⟨[]⟩) (st := s__law_bent) (by kernel_rfl) (by kernel_rfl) (by kernel_rfl)
theorem b__law_bent : Binds (Kf P) fd__law_bent ["deck", "line"] [] := (F__law_bent P).binds (ps := ["deck", "line"]) fun _ _ _ _ _ _ us hl => match us, hl with | [_, _], _ => rfl
theorem sc__law_bent : FnScope ["deck", "line", "words", "at", "way"] ["deck", "line"] (defScope s__law_bent) := ⟨rfl, rfl, rfl, by decide +kernel, rfl, by decide +kernel, by decide +kernel⟩
abbrev s__law_due : Stmt := top 267
def fd__law_due : FuncData := PySem.W.fnOf "_law_due" "_law_due" (defArgs s__law_due) (defBody s__law_due) (defScope s__law_due) (.none) (.none) (.none) (.str "law_rulewardens_k72_words_of_commands" 2830) none (.ref 1843) (.none)
theorem F__law_due : Fun (Kf P) "_law_due" "_law_due" s__law_due 1844 fd__law_due := fun_mk (oc := .type "function") (od := none) (osl := ⟨[]⟩) (st := s__law_due) (by kernel_rfl) (by kernel_rfl) (by kernel_rfl)
theorem b__law_due : Binds (Kf P) fd__law_due ["it"] [] := (F__law_due P).binds (ps := ["it"]) fun _ _ _ _ _ _ us hl => match us, hl with | [_], _ => rfl
theorem sc__law_due : FnScope ["it", "words", "word", "size", "text_now"] ["it"] (defScope s__law_due) := ⟨rfl, rfl, rfl, by decide +kernel, rfl, by decide +kernel, by decide +kernel⟩
abbrev s__law_heard : Stmt := top 268
def fd__law_heard : FuncData := PySem.W.fnOf "_law_heard" "_law_heard" (defArgs s__law_heard) (defBody s__law_heard) (defScope s__law_heard) (.none) (.none) (.none) (.str "law_rulewardens_k72_words_of_commands" 2830) none (.ref 1850) (.none)
theorem F__law_heard : Fun (Kf P) "_law_heard" "_law_heard" s__law_heard 1851 fd__law_heard := fun_mk (oc := .type "function") (od := none) (osl := ⟨[]⟩) (st := s__law_heard) (by kernel_rfl) (by kernel_rfl) (by kernel_rfl)
theorem b__law_heard : Binds (Kf P) fd__law_heard ["it", "is_named"] [] := (F__law_heard P).binds (ps := ["it", "is_named"]) fun _ _ _ _ _ _ us hl => match us, hl with | [_, _], _ => rfl
theorem sc__law_heard : FnScope ["it", "is_named", "found", "e"] ["it", "is_named"] (defScope s__law_heard) := ⟨rfl, rfl, rfl, by decide +kernel, rfl, by decide +kernel, by decide +kernel⟩
abbrev s__law_said : Stmt := top 269
def fd__law_said : FuncData := PySem.W.fnOf "_law_said" "_law_said" (defArgs s__law_said) (defBody s__law_said) (defScope s__law_said) (.none) (.none) (.none) (.str "law_rulewardens_k72_words_of_commands" 2830) none (.ref 1857) (.none)
theorem F__law_said : Fun (Kf P) "_law_said" "_law_said" s__law_said 1858 fd__law_said := fun_mk (oc := .type "function") (od := none) (osl := ⟨[]⟩) (st := s__law_said) (by kernel_rfl) (by kernel_rfl) (by kernel_rfl)
theorem b__law_said : Binds (Kf P) fd__law_said ["it"] [] := (F__law_said P).binds (ps := ["it"]) fun _ _ _ _ _ _ us hl => match us, hl with | [_], _ => rfl
theorem sc__law_said : FnScope ["it", "found"] ["it"] (defScope s__law_said) := ⟨rfl, rfl, rfl, by decide +kernel, rfl, by decide +kernel, by decide +kernel⟩
abbrev s__law_right : Stmt := top 270
def fd__law_right : FuncData := PySem.W.fnOf "_law_right" "_law_right" (defArgs s__law_right) (defBody s__law_right) (defScope s__law_right) (.none) (.none) (.none) (.str "law_rulewardens_k72_words_of_commands" 2830) none (.ref 1864) (.none)
theorem F__law_right : Fun (Kf P) "_law_right" "_law_right" s__law_right 1865 fd__law_right := fun_mk (oc := .type "function") (od := none) (osl := ⟨[]⟩) (st := s__law_right) (by kernel_rfl) (by kernel_rfl) (by kernel_rfl)
theorem b__law_right : Binds (Kf P) fd__law_right ["it"] [] := (F__law_right P).binds (ps := ["it"]) fun _ _ _ _ _ _ us hl => match us, hl with | [_], _ => rfl
theorem sc__law_right : FnScope ["it", "due", "was", "must"] ["it"] (defScope s__law_right) := ⟨rfl, rfl, rfl, by decide +kernel, rfl, by decide +kernel, by decide +kernel⟩
abbrev s_law : Stmt := top 271
def fd_law : FuncData := PySem.W.fnOf "law" "law" (defArgs s_law) (defBody s_law) (defScope s_law) (.none) (.none) (.none) (.str "law_rulewardens_k72_words_of_commands" 2830) none (.ref 1869) (.none)
theorem F_law : Fun (Kf P) "law" "law" s_law 1870 fd_law := fun_mk (oc := .type "function") (od := none) (osl := ⟨[]⟩) (st := s_law) (by kernel_rfl) (by kernel_rfl) (by kernel_rfl)
theorem b_law : Binds (Kf P) fd_law ["script"] [] := (F_law P).binds (ps := ["script"]) fun _ _ _ _ _ _ us hl => match us, hl with | [_], _ => rfl
theorem sc_law : FnScope ["script", "deck", "turn", "line", "near", "odd"] ["script"] (defScope s_law) := ⟨rfl, rfl, rfl, by decide +kernel, rfl, by decide +kernel, by decide +kernel⟩
abbrev s_Console___init__ : Stmt := inC (top 258) 0
def fd_Console___init__ : FuncData := PySem.W.fnOf "__init__" "Console.__init__" (defArgs s_Console___init__) (defBody s_Console___init__) (defScope s_Console___init__) (.none) (.none) (.none) (.str "rulewardens.console" 2508) none (.ref 1765) (.none)
theorem F_Console___init__ : Fun (Kf P) "__init__" "Console.__init__" s_Console___init__ 1766 fd_Console___init__ := fun_mk (oc := .type "function") (od := none) (osl := ⟨[]⟩) (st := s_Console___init__) (by kernel_rfl) (by kernel_rfl) (by kernel_rfl)
theorem b_Console___init__ : Binds (Kf P) fd_Console___init__ ["self"] [] := (F_Console___init__ P).binds (ps := ["self"]) fun _ _ _ _ _ _ us hl => match us, hl with | [_], _ => rfl
theorem sc_Console___init__ : FnScope ["self"] ["self"] (defScope s_Console___init__) := ⟨rfl, rfl, rfl, by decide +kernel, rfl, by decide +kernel, by decide +kernel⟩
abbrev s_Console_say : Stmt := inC (top 258) 2
def fd_Console_say : FuncData := PySem.W.fnOf "say" "Console.say" (defArgs s_Console_say) (defBody s_Console_say) (defScope s_Console_say) (.none) (.none) (.none) (.str "rulewardens.console" 2508) none (.ref 1780) (.none)
theorem F_Console_say : Fun (Kf P) "say" "Console.say" s_Console_say 1781 fd_Console_say := fun_mk (oc := .type "function") (od := none) (osl := ⟨[]⟩) (st := s_Console_say) (by kernel_rfl) (by kernel_rfl) (by kernel_rfl)
theorem b_Console_say : Binds (Kf P) fd_Console_say ["self", "command"] [] := (F_Console_say P).binds (ps := ["self", "command"]) fun _ _ _ _ _ _ us hl => match us, hl with | [_, _], _ => rfl
theorem sc_Console_say : FnScope ["self", "command", "words"] ["self", "command"] (defScope s_Console_say) := ⟨rfl, rfl, rfl, by decide +kernel, rfl, by decide +kernel, by decide +kernel⟩
abbrev s_Office___init__ : Stmt := inC (top 223) 0
def fd_Office___init__ : FuncData := PySem.W.fnOf "__init__" "Office.__init__" (defArgs s_Office___init__) (defBody s_Office___init__) (defScope s_Office___init__) (.none) (.none) (.none) (.str "rulewardens.office" 2291) none (.ref 1448) (.none)
theorem F_Office___init__ : Fun (Kf P) "__init__" "Office.__init__" s_Office___init__ 1449 fd_Office___init__ := fun_mk (oc := .type "function") (od := none) (osl := ⟨[]⟩) (st := s_Office___init__) (by kernel_rfl) (by kernel_rfl) (by kernel_rfl)
theorem b_Office___init__ : Binds (Kf P) fd_Office___init__ ["self"] [] := (F_Office___init__ P).binds (ps := ["self"]) fun _ _ _ _ _ _ us hl => match us, hl with | [_], _ => rfl
theorem sc_Office___init__ : FnScope ["self"] ["self"] (defScope s_Office___init__) := ⟨rfl, rfl, rfl, by decide +kernel, rfl, by decide +kernel, by decide +kernel⟩
theorem exc_IC : excIn (Kf P) 332 [.type "Exception", .type "BaseException", .type "object"] "Exception.__new__" = true := by kernel_rfl
theorem kp_IC : keepIn (Kf P) (.ref 332) = true := by kernel_rfl
theorem sub_IC : subIn (Kf P) (.ref 332) (.type "BaseException") = some true := by kernel_rfl
theorem ty_IC : typeIn (Kf P) (.ref 332) = some (.type "type") := by kernel_rfl
theorem exm_ICIC : exmOne (Kf P) (.ref 332) (.ref 332) = some true := by kernel_rfl
theorem exm_ICWE : exmOne (Kf P) (.ref 332) (.ref 31) = some true := by kernel_rfl
theorem kit_ICWE : kitOne (Kf P) (.ref 332) (.ref 31) = some true := by kernel_rfl
theorem cls_Console : Cls (Kf P) 1784 := ⟨by kernel_rfl, by kernel_rfl, by kernel_rfl, by kernel_rfl⟩
theorem cls_Office : Cls (Kf P) 1567 := ⟨by kernel_rfl, by kernel_rfl, by kernel_rfl, by kernel_rfl⟩
theorem mk_Console : Mk (Kf P) 1784 1766 := ⟨by kernel_rfl, by kernel_rfl, by kernel_rfl, by kernel_rfl⟩
theorem mk_Office : Mk (Kf P) 1567 1449 := ⟨by kernel_rfl, by kernel_rfl, by kernel_rfl, by kernel_rfl⟩
theorem me_say : Meth (Kf P) 1784 "say" 1781 := ⟨by kernel_rfl, by kernel_rfl, by kernel_rfl⟩
theorem no_office_kept : NoAttr (Kf P) 1784 "office_kept" := by change findIn (Kf P) (.ref 1784) "office_kept" = some none; kernel_rfl
theorem no_open_now : NoAttr (Kf P) 1567 "open_now" := by change findIn (Kf P) (.ref 1567) "open_now" = some none; kernel_rfl
theorem no_past : NoAttr (Kf P) 1567 "past" := by change findIn (Kf P) (.ref 1567) "past" = some none; kernel_rfl
theorem no_ahead : NoAttr (Kf P) 1567 "ahead" := by change findIn (Kf P) (.ref 1567) "ahead" = some none; kernel_rfl
end
/-- what the module names stand for -/
structure Mg (mg : Str → Option Value) : Prop where
  m_command_words : mg "command_words" = some (.ref 344)
  m__law_start : mg "_law_start" = some (.ref 1795)
  m__law_draw : mg "_law_draw" = some (.ref 1802)
  m__law_pick : mg "_law_pick" = some (.ref 1809)
  m__law_name : mg "_law_name" = some (.ref 1816)
  m__law_text : mg "_law_text" = some (.ref 1823)
  m__law_line : mg "_law_line" = some (.ref 1830)
  m__law_bent : mg "_law_bent" = some (.ref 1837)
  m__law_due : mg "_law_due" = some (.ref 1844)
  m__law_heard : mg "_law_heard" = some (.ref 1851)
  m__law_said : mg "_law_said" = some (.ref 1858)
  m__law_right : mg "_law_right" = some (.ref 1865)
  m_law : mg "law" = some (.ref 1870)
  m_Console : mg "Console" = some (.ref 1784)
  m_Office : mg "Office" = some (.ref 1567)
  m_InvalidCommand : mg "InvalidCommand" = some (.ref 332)
  m_WardError : mg "WardError" = some (.ref 31)
  m_TEXT_WORDS : mg "TEXT_WORDS" = some (.ref 335)
  m_WORD_COUNTS : mg "WORD_COUNTS" = some (.ref 336)
  m_BLANK_commands : mg "BLANK_commands" = some (.str " " 606)
  m_BREAK_commands : mg "BREAK_commands" = some (.str "\n" 608)
  m_SEMICOLON : mg "SEMICOLON" = some (.str ";" 610)
  m_LEAST_TEXT_WORDS : mg "LEAST_TEXT_WORDS" = some (.int 3 616)
  m_int : mg "int" = none
  m_len : mg "len" = none
  m_list : mg "list" = none
  m_isinstance : mg "isinstance" = none
  m_str : mg "str" = none
  m_repr : mg "repr" = none
  m_tuple : mg "tuple" = none
  m_range : mg "range" = none
theorem mg_all {P : Params} {h : Heap} {mg : Str → Option Value} (X : (Kf P).In h) (G : h.Ns mainGlobals mg) : Mg mg :=
  ⟨mg_of X G (g_command_words P), mg_of X G (g__law_start P), mg_of X G (g__law_draw P), mg_of X G (g__law_pick P), mg_of X G (g__law_name P), mg_of X G (g__law_text P), mg_of X G (g__law_line P), mg_of X G (g__law_bent P), mg_of X G (g__law_due P), mg_of X G (g__law_heard P), mg_of X G (g__law_said P), mg_of X G (g__law_right P), mg_of X G (g_law P), mg_of X G (g_Console P), mg_of X G (g_Office P), mg_of X G (g_InvalidCommand P), mg_of X G (g_WardError P), mg_of X G (g_TEXT_WORDS P), mg_of X G (g_WORD_COUNTS P), mg_of X G (g_BLANK_commands P), mg_of X G (g_BREAK_commands P), mg_of X G (g_SEMICOLON P), mg_of X G (g_LEAST_TEXT_WORDS P), mg_none_of X G (g_int P), mg_none_of X G (g_len P), mg_none_of X G (g_list P), mg_none_of X G (g_isinstance P), mg_none_of X G (g_str P), mg_none_of X G (g_repr P), mg_none_of X G (g_tuple P), mg_none_of X G (g_range P)⟩
end K72
end

section
set_option Elab.async false
set_option linter.all false
set_option maxRecDepth 100000
set_option maxHeartbeats 4000000
namespace K72
open PySem PySem.Spec PyProof.Rows L2
/-- the law's deck: a dict at d, the cells at l -/
structure DeckAt (H : Hp) (d l : Addr) (ns : List Int) (m n : Int) : Prop where
  dc : H d = some (.dK [(.inr "left", .ref l), (.inr "mixed", .int m), (.inr "draws", .int n)])
  li : H l = some (.lst (ns.map V.int))
  len : ns.length ≤ 63
  m0 : 0 ≤ m
  m1 : m < 2147483629
  n0 : 0 ≤ n
theorem cutV_map {α : Type} (f : α → V) (xs : List α) (lo hi : Option Int) : ∃ ys : List α, cutV (xs.map f) lo hi = ys.map f ∧ ys.length ≤ xs.length ∧ ∀ y ∈ ys, y ∈ xs := by
  unfold cutV
  refine ⟨(xs.drop (HT.sIx (xs.map f).length 0 lo)).take (HT.sIx (xs.map f).length (xs.map f).length hi - HT.sIx (xs.map f).length 0 lo), ?_, ?_, fun y hy => ?_⟩
  · rw [List.map_take, List.map_drop]
  · rw [List.length_take, List.length_drop]
    omega
  · exact List.mem_of_mem_drop (List.mem_of_mem_take hy)
theorem Same.up {H : Hp} {a : Addr} {o : HO} (h : H a = none) : Same H (upd H a o) := fun b u e => by
  rw [upd_ne (ne_of_none e h)]
  exact e
theorem cutSeq {a b : TS} {D : Ends} {σ : L2.St} {H : Hp} (P : L2.St → Hp → Prop) (h1 : ∀ NX : L2.St → Hp → Prop, (∀ σ' H', P σ' H' → NX σ' H') → a { D with nx := NX } σ H) (h2 : ∀ σ' H', P σ' H' → b D σ' H') : tSeq a b D σ H := h1 _ h2
theorem dp_ints {K : PySem.W.Frag} {H : Hp} : ∀ ns : List Int, DpAll K H (ns.map V.int) (ns.map PyData.int)
  | [] => .nil
  | n :: r => .cons (.int n) (dp_ints r)
theorem canAll_ints : ∀ ns : List Int, PyData.canLayAll0 (ns.map PyData.int) = true
  | [] => rfl
  | n :: r => by
    show (PyData.canLay0 (.int n) && PyData.canLayAll0 (r.map PyData.int)) = true
    rw [canAll_ints r]
    rfl
theorem depthAll_ints : ∀ ns : List Int, PyData.depthAll (ns.map PyData.int) ≤ 1
  | [] => by decide
  | n :: r => by
    have h := depthAll_ints r
    simp only [List.map_cons, PyData.depthAll, PyData.depth]
    omega
theorem shaped_ints (ns : List Int) : SeqAt.shaped (.list (ns.map PyData.int)) = true := by
  have h := depthAll_ints ns
  unfold SeqAt.shaped
  refine Bool.and_eq_true_iff.mpr ⟨canAll_ints ns, decide_eq_true ?_⟩
  show PyData.depthAll (ns.map PyData.int) + 1 ≤ 64
  omega
theorem eqv_ints (ns : List Int) : PyData.eqv (.list (ns.map PyData.int)) (.list []) = ns.isEmpty := by
  cases ns with
  | nil => rfl
  | cons n r => rfl
def spStart (K : PySem.W.Frag) : Sp := fun vs H Q _ => ∃ (a : Addr) (ns : List Int), vs = [.ref a] ∧ SqL K H a (ns.map V.int) ∧ ns.length ≤ 63 ∧
  ∀ (d l : Addr) (H' : Hp) (ns' : List Int) (m : Int), H d = none → H l = none → Same H H' → DeckAt H' d l ns' m 0 → Q (.ref d) H'
section
variable {w : World} {mg : Str → Option Value} {base : Heap}
theorem ok_start (M : Mg mg) : FnOk prog w (Kf w.params) mg base CX0 1 1795 fd__law_start ["script"] (spStart (Kf w.params)) := by
  refine (F__law_start w.params).ok (sc__law_start) (fun vs H Q E h => ?_) (fun cdv A outer s H vs Q E hr h => ?_)
  · obtain ⟨a, ns, rfl, _⟩ := h
    rfl
  · obtain ⟨a, ns, rfl, hS, hlen, k⟩ := h
    have nd := sc__law_start.nd
    refine ⟨_, pss_cons (ps_set (i := 1) nd rfl (Or.inl rfl) pe_int)
      (pss_cons (ps_for PassesOwn.never rfl (pi_list (pe_slice sl_list (pv 0) po_none (po_some pe_int))) (pg_name (i := 2) nd rfl (Or.inl rfl))
        (pss_one (ps_set (i := 1) nd rfl (Or.inl rfl) (pe_op op_mod (pe_callTy call_int1 (by rfl) M.m_int boot_int (pa_cons (pe_op op_add (pe_op op_add (pe_op op_mul (pv 1) pe_int)
          (pe_op op_mod (pe_callTy call_int1 (by rfl) M.m_int boot_int (pa_cons (pv 2) pa_nil)) pe_int)) pe_int) pa_nil)) pe_int))))
      (pss_one (ps_ret (pe_disp (pps_cons pe_str (pe_revL (pe_callTy call_list_of (by rfl) M.m_list boot_list (pa_cons (pe_slice sl_list (pv 0) po_none (po_some pe_int)) pa_nil)))
        (pps_cons pe_str (pv 1) (pps_cons pe_str pe_int pps_nil))) (by rfl) (by rfl) (fun z => by cases z) (by decide))))), ?_⟩
    refine ⟨_, rfl, 63, rfl, a, _, rfl, hS, fun p hp => ?_⟩
    obtain ⟨ys, ey, hy, _⟩ := cutV_map V.int ns none (some 63)
    rw [ey]
    refine ⟨p, rfl, ⟨_, SqL.of upd_same⟩, for_list (K := Kf w.params) (a := p) (xs := ys.map V.int) (fun i σ H2 => ∃ (m : Int) (v : Option V), σ = [some (.ref a), some (.int m), v] ∧ 0 ≤ m ∧ m < 2147483629 ∧ Same (upd H p (.lst (ys.map V.int))) H2)
      ⟨10867079, none, rfl, by decide, by decide, Same.refl _⟩ (fun i σ H2 _ ⟨_, _, _, _, _, s2⟩ => SqL.of (s2 _ _ upd_same)) ?_ ?_⟩
    · rintro i y σ H2 hi ⟨m, v, rfl, m0, m1, s2⟩
      obtain ⟨z, rfl⟩ : ∃ z, y = V.int z := by
        rw [List.getElem?_map] at hi
        obtain ⟨z, _, e⟩ := Option.map_eq_some_iff.mp hi
        exact ⟨z, e.symm⟩
      refine ⟨_, rfl, _, _, rfl, rfl, Or.inl ⟨by omega, by omega⟩, _, rfl, Or.inl ⟨_, rfl, _, _, rfl, rfl, (by show (0 : Int) < 2147483587; decide), _, _, rfl, rfl, _, _, rfl, rfl, Or.inl ⟨_, rfl, _, _, rfl, rfl, (by show (0 : Int) < 2147483629; decide), ?_⟩⟩⟩
      exact ⟨_, _, rfl, Int.emod_nonneg _ (by decide), Int.emod_lt_of_pos _ (by decide), s2⟩
    · rintro σ H2 ⟨m, v, rfl, m0, m1, s2⟩
      intro d hd
      have sH : Same H H2 := (Same.up hp).trans s2
      have sD : Same H2 (upd H2 d (.dK [])) := Same.up hd
      refine ⟨_, rfl, 63, rfl, a, _, rfl, sD.seq (sH.seq hS), fun p2 hp2 => ?_⟩
      rw [ey]
      have s3 := sD.trans (Same.up (o := .lst (ys.map V.int)) hp2)
      refine ⟨p2, _, rfl, .inl (SqL.of upd_same), fun p3 hp3 => ?_⟩
      have s4 := s3.trans (Same.up (o := .lst (ys.map V.int)) hp3)
      refine ⟨p3, _, rfl, SqL.of upd_same, fun p4 hp4 => ?_⟩
      have s5 := s4.trans (Same.up (o := .lst (ys.map V.int).reverse) hp4)
      have hd2 : d ≠ p2 := fun e => by rw [← e, upd_same] at hp2; cases hp2
      have hd3 : d ≠ p3 := ne_of_none (o := .dK []) (by rw [upd_ne hd2, upd_same]) hp3
      have hd4 : d ≠ p4 := ne_of_none (o := .dK []) (by rw [upd_ne hd3, upd_ne hd2, upd_same]) hp4
      refine ⟨_, rfl, ?_⟩
      refine ⟨by rw [upd_ne hd4, upd_ne hd3, upd_ne hd2, upd_same], [(.inr "left", .ref p4), (.inr "mixed", .int m), (.inr "draws", .int 0)], rfl, (by show 3 ≤ 15; decide), ?_⟩
      have em : mergeK [] [((.inr "left" : Key), V.ref p4), (.inr "mixed", .int m), (.inr "draws", .int 0)] = [((.inr "left" : Key), V.ref p4), (.inr "mixed", .int m), (.inr "draws", .int 0)] := by kernel_rfl
      rw [em]
      refine k d p4 _ ys.reverse m (sH.free hd) ((sH.trans s4).free hp4) (fun b o e => ?_) ⟨upd_same, ?_, by rw [List.length_reverse]; omega, m0, m1, Int.le_refl _⟩
      · have nb : b ≠ d := ne_of_none (sH _ _ e) hd
        rw [upd_ne nb]
        exact s5 _ _ (sH _ _ e)
      · rw [upd_ne hd4.symm, upd_same, List.map_reverse]
/-- a draw: an int below another one; the deck goes on -/
def spDraw : Sp := fun vs H Q _ => ∃ (d l : Addr) (ns : List Int) (m n b : Int), vs = [.ref d, .int b] ∧ DeckAt H d l ns m n ∧ n ≤ 100000 ∧ 0 < b ∧ b ≤ 1000 ∧
  ∀ (H' : Hp) (ns' : List Int) (r : Int), 0 ≤ r → r < b → DeckAt H' d l ns' m (n + 1) → (∀ c o, H c = some o → c ≠ d → c ≠ l → H' c = some o) → Q (.int r) H'
theorem ok_draw (M : Mg mg) : FnOk prog w (Kf w.params) mg base CX0 1 1802 fd__law_draw ["deck", "below"] spDraw := by
  refine (F__law_draw w.params).ok (sc__law_draw) (fun vs H Q E h => ?_) (fun cdv A outer s H vs Q E hr h => ?_)
  · obtain ⟨d, l, ns, m, n, b, rfl, _⟩ := h
    rfl
  · obtain ⟨d, l, ns, m, n, b, rfl, D, hn, b0, b1, k⟩ := h
    have nd := sc__law_draw.nd
    have hu := hu_of hr
    refine ⟨_, pss_cons (ps_dput hu (pv 0) pe_str (pe_op op_add (pe_dget hu (pv 0) pe_str (fun _ _ => rfl)) pe_int) rfl)
      (pss_cons (ps_set (i := 2) nd rfl (Or.inl rfl) (pe_op op_add (pe_dget hu (pv 0) pe_str (fun _ _ => rfl)) (pe_op op_mul pe_int (pe_dget hu (pv 0) pe_str (fun _ _ => rfl)))))
      (pss_cons (ps_if (pt_cmpR (op_neD hr.units) (pe_dget hu (pv 0) pe_str (fun _ _ => rfl)) (pe_lst pa_nil) (nomark _))
        (pss_cons (ps_set (i := 3) nd rfl (Or.inl rfl) (pe_bm0 PySem.F.plainAttrs_list PySem.F.slot_list_pop PySem.F.type_list_pop mt_pop (pe_dget hu (pv 0) pe_str (fun _ _ => rfl))))
        (pss_cons (ps_if (pt_cmpR op_ge (pv 3) (pe_op op_pow pe_int pe_int) (nomark _))
          (pss_cons (ps_expr (pe_bm PySem.F.plainAttrs_list PySem.F.slot_list_append PySem.F.type_list_append mt_append (pe_dget hu (pv 0) pe_str (fun _ _ => rfl)) (pa_cons (pe_op op_fdivN (pv 3) (pv 1)) pa_nil)))
          (pss_one (ps_ret (pe_op op_modN (pe_callTy call_int1 (by rfl) M.m_int boot_int (pa_cons (pv 3) pa_nil)) (pv 1))))) pss_nil)
        (pss_one (ps_set (i := 2) nd rfl (Or.inl rfl) (pe_op op_add (pv 2) (pe_op op_mod (pe_callTy call_int1 (by rfl) M.m_int boot_int (pa_cons (pv 3) pa_nil)) pe_int)))))) pss_nil)
      (pss_cons (ps_set (i := 2) nd rfl (Or.inl rfl) (pe_op op_mod (pe_callTy call_int1 (by rfl) M.m_int boot_int (pa_cons (pe_op op_add (pe_op op_mul (pv 2) pe_int) pe_int) pa_nil)) pe_int))
      (pss_cons (ps_set (i := 2) nd rfl (Or.inl rfl) (pe_op op_mod (pe_callTy call_int1 (by rfl) M.m_int boot_int (pa_cons (pe_op op_add (pe_op op_add (pe_op op_mul (pv 2) (pv 2)) (pe_op op_mul pe_int (pe_dget hu (pv 0) pe_str (fun _ _ => rfl)))) pe_int) pa_nil)) pe_int))
      (pss_one (ps_ret (pe_op op_modN (pe_op op_fdiv (pe_op op_mod (pe_callTy call_int1 (by rfl) M.m_int boot_int (pa_cons (pe_op op_mul (pv 2) pe_int) pa_nil)) pe_int) pe_int) (pv 1)))))))), ?_⟩
    -- deck["draws"] = deck["draws"] + 1
    refine ⟨_, rfl, d, .int n, rfl, DGet.k (k := .inr "draws") D.dc, _, _, rfl, rfl, ?_⟩
    refine ⟨_, rfl, d, _, rfl, DPut.k (k := .inr "draws") D.dc (by show 3 < sizeLine; decide), ?_⟩
    have e1 : putK [((.inr "left" : Key), V.ref l), (.inr "mixed", .int m), (.inr "draws", .int n)] (.inr "draws") (V.int (n + 1)) = [((.inr "left" : Key), V.ref l), (.inr "mixed", .int m), (.inr "draws", .int (n + 1))] := by kernel_rfl
    rw [e1]
    have ld : l ≠ d := ne_of D.li D.dc (fun z => by cases z)
    generalize eH1 : upd H d (.dK [((.inr "left" : Key), V.ref l), (.inr "mixed", .int m), (.inr "draws", .int (n + 1))]) = H1
    have D1 : DeckAt H1 d l ns m (n + 1) := ⟨by rw [← eH1, upd_same], by rw [← eH1, upd_ne ld]; exact D.li, D.len, D.m0, D.m1, by have := D.n0; omega⟩
    have fr : ∀ c o, H c = some o → c ≠ d → c ≠ l → H1 c = some o := fun c o e h1 h2 => by rw [← eH1, upd_ne h1]; exact e
    have n0 := D1.n0
    have m0 := D.m0
    have m1 := D.m1
    -- figure = deck["mixed"] + 71028 * deck["draws"]
    refine ⟨_, rfl, d, .int m, rfl, DGet.k (k := .inr "mixed") D1.dc, _, rfl, d, .int (n + 1), rfl, DGet.k (k := .inr "draws") D1.dc, _, _, rfl, rfl, Or.inl ⟨by decide, by decide⟩, _, _, rfl, rfl, ?_⟩
    dsimp only [gName]
    refine cutSeq (fun σ' H' => ∃ (f : Int) (v : Option V) (ns' : List Int), σ' = [some (.ref d), some (.int b), some (.int f), v] ∧ 0 ≤ f ∧ f < 100000000000 ∧ DeckAt H' d l ns' m (n + 1) ∧ (∀ c o, H c = some o → c ≠ d → c ≠ l → H' c = some o)) (fun NX tail => ?_) ?_
    · -- if deck["left"] != []
      refine ⟨_, rfl, d, .ref l, rfl, DGet.k (k := .inr "left") D1.dc, (by show 0 ≤ sizeLine; decide), fun p hp => ?_⟩
      have pl : l ≠ p := ne_of_none D1.li hp
      have pd : d ≠ p := ne_of_none D1.dc hp
      refine ⟨.list (ns.map .int), .list [], .lst (SqL.of (by rw [upd_ne pl]; exact D1.li)) (dp_ints ns), .lst (SqL.of upd_same) .nil, shaped_ints ns, by decide, _, rfl, ?_⟩
      rw [eqv_ints]
      have D2 : DeckAt (upd H1 p (.lst [])) d l ns m (n + 1) := ⟨by rw [upd_ne pd]; exact D1.dc, by rw [upd_ne pl]; exact D1.li, D1.len, m0, m1, n0⟩
      have fr2 : ∀ c o, H c = some o → c ≠ d → c ≠ l → upd H1 p (.lst []) c = some o := fun c o e h1 h2 => by
        have e2 := fr c o e h1 h2
        rw [upd_ne (ne_of_none e2 hp)]
        exact e2
      have tri : 71028 * (n + 1) ≤ 71028 * 100001 := by omega
      cases ens : ns.isEmpty with
      | true =>
        refine iteF ?_
        exact tail _ _ ⟨_, _, ns, rfl, by omega, by omega, D2, fr2⟩
      | false =>
        refine iteT ?_
        obtain ⟨xs, x, exs⟩ : ∃ xs x, ns = xs ++ [x] := by
          have ne : ns ≠ [] := by
            intro z
            rw [z] at ens
            cases ens
          exact ⟨ns.dropLast, ns.getLast ne, (List.dropLast_concat_getLast ne).symm⟩
        have el : (ns.map V.int)[(ns.map V.int).length - 1]? = some (.int x) := by
          rw [exs, List.map_append, List.length_append, List.length_map]
          simp
        have ed : (ns.map V.int).dropLast = xs.map V.int := by
          rw [exs, List.map_append]
          exact List.dropLast_concat
        -- cell = deck["left"].pop()
        refine ⟨_, rfl, d, .ref l, rfl, DGet.k (k := .inr "left") D2.dc, .inl ⟨rfl, _, SqL.of D2.li⟩, l, _, .int x, rfl, rfl, D2.li, el, ?_⟩
        rw [ed]
        have xl : xs.length < 63 := by
          have := D1.len
          rw [exs, List.length_append, List.length_singleton] at this
          omega
        generalize eH3 : upd (upd H1 p (.lst [])) l (.lst (xs.map V.int)) = H3
        have D3 : DeckAt H3 d l xs m (n + 1) := ⟨by rw [← eH3, upd_ne ld.symm]; exact D2.dc, by rw [← eH3, upd_same], by omega, m0, m1, n0⟩
        have fr3 : ∀ c o, H c = some o → c ≠ d → c ≠ l → H3 c = some o := fun c o e h1 h2 => by rw [← eH3, upd_ne h2]; exact fr2 c o e h1 h2
        -- if cell >= 10 ** 18
        refine ⟨_, rfl, _, _, rfl, rfl, (by show (0 : Int) ≤ 18 ∧ (18 : Int) ≤ 1000000 ∧ (10 : Int).natAbs < 2 ^ 64; decide), _, _, rfl, rfl, _, rfl, ?_⟩
        refine ite2 (fun _ => ?_) (fun _ => ?_)
        · refine ⟨_, rfl, d, .ref l, rfl, DGet.k (k := .inr "left") D3.dc, .inl ⟨rfl, _, SqL.of D3.li⟩, _, rfl, _, rfl, _, _, rfl, rfl, ⟨by omega, by omega⟩, l, _, _, rfl, rfl, D3.li, ?_, ?_⟩
          · rw [List.length_map]
            exact small1000 (by omega)
          · refine ⟨_, rfl, Or.inl ⟨_, rfl, _, rfl, _, _, rfl, rfl, (by show b ≠ 0; omega), ?_⟩⟩
            dsimp only
            rw [Int.fmod_eq_emod_of_nonneg _ (by omega)]
            refine k _ (xs ++ [Int.fdiv x b]) _ (Int.emod_nonneg _ (by omega)) (Int.emod_lt_of_pos _ b0) ⟨?_, ?_, ?_, m0, m1, n0⟩ fun c o e h1 h2 => ?_
            · rw [upd_ne ld.symm]
              exact D3.dc
            · rw [upd_same, List.map_append]
              rfl
            · rw [List.length_append, List.length_singleton]
              omega
            · rw [upd_ne h2]
              exact fr3 c o e h1 h2
        · refine ⟨_, rfl, _, rfl, Or.inl ⟨_, rfl, _, _, rfl, rfl, (by show (0 : Int) < 2147483563; decide), _, _, rfl, rfl, ?_⟩⟩
          have r0 := Int.emod_nonneg x (show (2147483563 : Int) ≠ 0 by decide)
          have r1 := Int.emod_lt_of_pos x (show (0 : Int) < 2147483563 by decide)
          exact tail _ _ ⟨_, _, xs, rfl, by omega, by omega, D3, fr3⟩
    · rintro σ' H4 ⟨f, v, ns', rfl, f0, f1, D4, fr4⟩
      refine ⟨_, rfl, _, _, rfl, rfl, Or.inl ⟨by omega, by omega⟩, _, _, rfl, rfl, Or.inl ⟨_, rfl, _, _, rfl, rfl, (by show (0 : Int) < 2147483647; decide), ?_⟩⟩
      have r0 := Int.emod_nonneg (f * 48271 + 389) (show (2147483647 : Int) ≠ 0 by decide)
      have r1 := Int.emod_lt_of_pos (f * 48271 + 389) (show (0 : Int) < 2147483647 by decide)
      generalize (f * 48271 + 389) % 2147483647 = g at r0 r1 ⊢
      refine ⟨_, rfl, _, rfl, _, _, rfl, rfl, Or.inl ⟨by omega, by omega⟩, _, rfl, d, .int (n + 1), rfl, DGet.k (k := .inr "draws") D4.dc, _, _, rfl, rfl, Or.inl ⟨by decide, by decide⟩, _, _, rfl, rfl, _, _, rfl, rfl,
        Or.inl ⟨_, rfl, _, _, rfl, rfl, (by show (0 : Int) < 2147483579; decide), ?_⟩⟩
      have q0 := Int.emod_nonneg (g * g + 39373 * (n + 1) + 389) (show (2147483579 : Int) ≠ 0 by decide)
      have q1 := Int.emod_lt_of_pos (g * g + 39373 * (n + 1) + 389) (show (0 : Int) < 2147483579 by decide)
      generalize (g * g + 39373 * (n + 1) + 389) % 2147483579 = g2 at q0 q1 ⊢
      refine ⟨_, rfl, _, _, rfl, rfl, Or.inl ⟨by omega, by omega⟩, Or.inl ⟨_, rfl, _, _, rfl, rfl, (by show (0 : Int) < 2147483549; decide), _, _, rfl, rfl, ⟨by decide, by decide⟩, _, rfl, _, _, rfl, rfl, (by show b ≠ 0; omega), ?_⟩⟩
      dsimp only
      rw [Int.fmod_eq_emod_of_nonneg _ (by omega)]
      exact k _ ns' _ (Int.emod_nonneg _ (by omega)) (Int.emod_lt_of_pos _ b0) D4 fr4
end
end K72
end

section
set_option Elab.async false
set_option linter.all false
set_option maxRecDepth 100000
set_option maxHeartbeats 4000000
namespace K72
open PySem PySem.Spec PyProof.Rows L2
/-! ### written lists of texts -/
def strsOf : List PySem.Expr → List Str
  | [] => []
  | e :: r => match e with
    | .Constant c _ _ => (match c with
      | .str x => x :: strsOf r
      | _ => strsOf r)
    | _ => strsOf r
def allStr : List PySem.Expr → Bool
  | [] => true
  | e :: r => match e with
    | .Constant c _ _ => (match c with
      | .str _ => allStr r
      | _ => false)
    | _ => false
def tStrs (ys : List Str) : TA := fun _ H Q => Q (ys.map V.str) H
theorem pa_strs {X : Cx} : ∀ es : List PySem.Expr, allStr es = true → PA X es (tStrs (strsOf es))
  | [], _ => pa_nil
  | e :: r, h => by
    cases e with
    | Constant c k p =>
      cases c with
      | str x => exact pa_cons (te := tC (.str x)) pe_str (pa_strs r h)
      | _ => cases h
    | _ => cases h
/-! ### small texts -/
structure Okz (L : Nat) (z : Str) : Prop where
  len : z.length ≤ L
  asc : ∀ c ∈ z.cps.toList, c < 128
def okzB (L : Nat) (z : Str) : Bool := decide (z.length ≤ L) && z.cps.toList.all (· < 128)
theorem okz_of {L : Nat} {z : Str} (h : okzB L z = true) : Okz L z := by
  obtain ⟨a, b⟩ := Bool.and_eq_true_iff.mp h
  exact ⟨of_decide_eq_true a, fun c hc => of_decide_eq_true (List.all_eq_true.mp b c hc)⟩
theorem Okz.mono {L M : Nat} {z : Str} (h : Okz L z) (le : L ≤ M) : Okz M z := ⟨Nat.le_trans h.len le, h.asc⟩
theorem Okz.app {L M : Nat} {x y : Str} (a : Okz L x) (b : Okz M y) : Okz (L + M) (x ++ y) := by
  refine ⟨?_, fun c hc => ?_⟩
  · rw [Str.length_append]
    have := a.len
    have := b.len
    omega
  · rw [Str.cps_append, Array.toList_append] at hc
    rcases List.mem_append.mp hc with h | h
    · exact a.asc c h
    · exact b.asc c h
theorem inV_strs (z : Str) : ∀ ys : List Str, inV (.str z) (ys.map V.str) = decide (z ∈ ys)
  | [] => rfl
  | y :: r => by
    have h := inV_strs z r
    show ((y == z) || inV (.str z) (r.map V.str)) = decide (z ∈ y :: r)
    rw [h]
    by_cases e : y = z
    · subst e
      simp
    · have e2 : (y == z) = false := beq_eq_false_iff_ne.mpr e
      rw [e2, Bool.false_or]
      simp [Ne.symm e]
theorem flat_strs : ∀ ys : List Str, (ys.map V.str).all flatV = true
  | [] => rfl
  | _ :: r => by
    show (true && (r.map V.str).all flatV) = true
    rw [flat_strs r]
    rfl
/-- if x in (written texts): .. -/
theorem sq_in {K : PySem.W.Frag} {D : Ends} {σ : L2.St} {H : Hp} {i : Nat} {z : Str} {ys : List Str} {a u : TS} (h : σ[i]? = some (some (.str z))) (hl : (ys.map V.str).length ≤ sizeLine)
    (ht : z ∈ ys → ∀ H2, Same H H2 → a { D with nx := u D } σ H2) (hf : z ∉ ys → ∀ H2, Same H H2 → u D σ H2) :
    tSeq (tIfS (tTest (tOp (rIn K false) (tVar i) (tTup (tStrs ys)))) a tNext) u D σ H := by
  refine ⟨_, h, hl, fun p hp => ⟨p, _, rfl, .inr (SqT.of upd_same), rfl, flat_strs ys, _, rfl, ?_⟩⟩
  show if (inV (.str z) (ys.map V.str)) = true then _ else _
  rw [inV_strs]
  by_cases e : z ∈ ys
  · rw [decide_eq_true e]
    exact iteT (ht e _ (Same.up hp))
  · rw [decide_eq_false e]
    exact iteF (hf e _ (Same.up hp))
/-- if x == (a written text): .. -/
theorem sq_eq {D : Ends} {σ : L2.St} {H : Hp} {i : Nat} {z y : Str} {a u : TS} (h : σ[i]? = some (some (.str z))) (ht : z = y → a { D with nx := u D } σ H) (hf : z ≠ y → u D σ H) :
    tSeq (tIfS (tTest (tOp rEq (tVar i) (tC (.str y)))) a tNext) u D σ H := by
  refine ⟨_, h, rfl, _, rfl, ?_⟩
  by_cases e : z = y
  · rw [decide_eq_true (show V.str z = V.str y by rw [e])]
    exact iteT (ht e)
  · rw [decide_eq_false (fun q => e (V.str.inj q))]
    exact iteF (hf e)
theorem line_len {n : Nat} (h : n ≤ 100000) : n ≤ sizeLine := Nat.le_trans h (by decide)
theorem DeckAt.same {H H' : Hp} {d l : Addr} {ns : List Int} {m n : Int} (D : DeckAt H d l ns m n) (e : Same H H') : DeckAt H' d l ns m n := ⟨e _ _ D.dc, e _ _ D.li, D.len, D.m0, D.m1, D.n0⟩
/-- all but the deck and its cells stay -/
def Frm (d l : Addr) (H H' : Hp) : Prop := ∀ c o, H c = some o → c ≠ d → c ≠ l → H' c = some o
theorem Frm.same {d l : Addr} {H H' : Hp} (e : Same H H') : Frm d l H H' := fun c o h _ _ => e c o h
theorem Frm.trans {d l : Addr} {H H1 H2 : Hp} (a : Frm d l H H1) (b : Frm d l H1 H2) : Frm d l H H2 := fun c u e h1 h2 => b c u (a c u e h1 h2) h1 h2
/-- an item of a list -/
def spPick : Sp := fun vs H Q _ => ∃ (d l p : Addr) (ns : List Int) (m n : Int) (xs : List V), vs = [.ref d, .ref p] ∧ DeckAt H d l ns m n ∧ n ≤ 100000 ∧ H p = some (.lst xs) ∧ p ≠ l ∧ 0 < xs.length ∧ xs.length ≤ 1000 ∧
  ∀ (H' : Hp) (ns' : List Int) (x : V), x ∈ xs → DeckAt H' d l ns' m (n + 1) → (∀ c o, H c = some o → c ≠ d → c ≠ l → H' c = some o) → Q x H'
section
variable {w : World} {mg : Str → Option Value} {base : Heap}
theorem ok_pick (M : Mg mg) : FnOk prog w (Kf w.params) mg base CX0 2 1809 fd__law_pick ["deck", "some"] spPick := by
  have GD : FnOk prog w (Kf w.params) mg base CX0 1 1802 fd__law_draw ["deck", "below"] spDraw := ok_draw M
  refine (F__law_pick w.params).ok (sc__law_pick) (fun vs H Q E h => ?_) (fun cdv A outer s H vs Q E hr h => ?_)
  · obtain ⟨d, l, p, ns, m, n, xs, rfl, _⟩ := h
    rfl
  · obtain ⟨d, l, p, ns, m, n, xs, rfl, D, hn, hp, pl, x0, x1, k⟩ := h
    refine ⟨_, pss_one (ps_ret (pe_ix ix_list (pv 1) (pe_call GD hr (by rfl) M.m__law_draw (F__law_draw w.params).kp (b__law_draw w.params) .nil pass0 (pa_cons (pv 0) (pa_cons (pe_callB call_len_seq (by rfl) M.m_len PySem.boot_len (pa_cons (pv 1) pa_nil)) pa_nil))) (fun _ _ => rfl))), ?_⟩
    have pd : p ≠ d := ne_of hp D.dc (fun z => by cases z)
    refine ⟨_, rfl, _, rfl, _, rfl, p, _, rfl, .inl (SqL.of hp), d, l, ns, m, n, _, rfl, D, hn, by omega, by omega, fun H' ns' r r0 r1 D' fr => ?_⟩
    have hp' := fr p _ hp pd pl
    have hi : r.toNat < xs.length := by omega
    refine ⟨p, xs, r, xs[r.toNat], rfl, rfl, SqL.of hp', ?_, ?_⟩
    · have e := atI_nat (xs := xs) (List.getElem?_eq_getElem hi)
      rw [show ((r.toNat : Nat) : Int) = r by omega] at e
      exact e
    · exact k H' ns' _ (List.getElem_mem hi) D' fr
/-- a drawn text: one of some; the deck goes on -/
def spText (L j : Nat) : Sp := fun vs H Q _ => ∃ (d l : Addr) (ns : List Int) (m n : Int), vs = [.ref d] ∧ DeckAt H d l ns m n ∧ n + j ≤ 100000 ∧
  ∀ (H' : Hp) (ns' : List Int) (n' : Int) (z : Str), Okz L z → DeckAt H' d l ns' m n' → n' ≤ n + j → (∀ c o, H c = some o → c ≠ d → c ≠ l → H' c = some o) → Q (.str z) H'
theorem use_pick {H : Hp} {d l p : Addr} {ns : List Int} {m n : Int} {ys : List Str} {L : Nat} {Q : VK} (D : DeckAt H d l ns m n) (hn : n ≤ 100000) (hp : H p = some (.lst (ys.map V.str))) (pl : p ≠ l) (h0 : 0 < ys.length) (h1 : ys.length ≤ 1000)
    (ha : ys.all (okzB L) = true) (k : ∀ (H' : Hp) (ns' : List Int) (z : Str), Okz L z → DeckAt H' d l ns' m (n + 1) → (∀ c o, H c = some o → c ≠ d → c ≠ l → H' c = some o) → Q (.str z) H') : spPick [.ref d, .ref p] H Q E0 := by
  refine ⟨d, l, p, ns, m, n, _, rfl, D, hn, hp, pl, by rw [List.length_map]; exact h0, by rw [List.length_map]; exact h1, fun H' ns' x hx D' fr => ?_⟩
  obtain ⟨z, hz, rfl⟩ := List.mem_map.mp hx
  exact k H' ns' z (okz_of (List.all_eq_true.mp ha z hz)) D' fr
theorem fr_up {H H' : Hp} {d l p : Addr} {o : HO} (hp : H p = none) (fr : ∀ c u, upd H p o c = some u → c ≠ d → c ≠ l → H' c = some u) : ∀ c u, H c = some u → c ≠ d → c ≠ l → H' c = some u := fun c u e h1 h2 =>
  fr c u (by rw [upd_ne (ne_of_none e hp)]; exact e) h1 h2
theorem fr_trans {H H1 H2 : Hp} {d l : Addr} (a : ∀ c u, H c = some u → c ≠ d → c ≠ l → H1 c = some u) (b : ∀ c u, H1 c = some u → c ≠ d → c ≠ l → H2 c = some u) : ∀ c u, H c = some u → c ≠ d → c ≠ l → H2 c = some u :=
  fun c u e h1 h2 => b c u (a c u e h1 h2) h1 h2
theorem DeckAt.up {H : Hp} {d l p : Addr} {ns : List Int} {m n : Int} {o : HO} (D : DeckAt H d l ns m n) (hp : H p = none) : DeckAt (upd H p o) d l ns m n :=
  ⟨by rw [upd_ne (ne_of_none D.dc hp)]; exact D.dc, by rw [upd_ne (ne_of_none D.li hp)]; exact D.li, D.len, D.m0, D.m1, D.n0⟩
theorem ok_name (M : Mg mg) : FnOk prog w (Kf w.params) mg base CX0 3 1816 fd__law_name ["deck"] (spText 10 1) := by
  have GP : FnOk prog w (Kf w.params) mg base CX0 2 1809 fd__law_pick ["deck", "some"] spPick := ok_pick M
  refine (F__law_name w.params).ok (sc__law_name) (fun vs H Q E h => ?_) (fun cdv A outer s H vs Q E hr h => ?_)
  · obtain ⟨d, l, ns, m, n, rfl, _⟩ := h
    rfl
  · obtain ⟨d, l, ns, m, n, rfl, D, hn, k⟩ := h
    refine ⟨_, pss_one (ps_ret (pe_call GP hr (by rfl) M.m__law_pick (F__law_pick w.params).kp (b__law_pick w.params) .nil pass0 (pa_cons (pv 0) (pa_cons (pe_lst (pa_strs _ (by decide +kernel))) pa_nil)))), ?_⟩
    refine ⟨_, rfl, (by decide +kernel), fun p hp => ?_⟩
    refine use_pick (L := 10) (D.up hp) (by omega) upd_same (ne_of_none D.li hp).symm (by decide +kernel) (by decide +kernel) (by decide +kernel) fun H' ns' z hz D' fr => ?_
    exact k H' ns' _ z hz D' (by omega) (fr_up hp fr)
theorem ok_text (M : Mg mg) : FnOk prog w (Kf w.params) mg base CX0 3 1823 fd__law_text ["deck"] (spText 60 1) := by
  have GP : FnOk prog w (Kf w.params) mg base CX0 2 1809 fd__law_pick ["deck", "some"] spPick := ok_pick M
  refine (F__law_text w.params).ok (sc__law_text) (fun vs H Q E h => ?_) (fun cdv A outer s H vs Q E hr h => ?_)
  · obtain ⟨d, l, ns, m, n, rfl, _⟩ := h
    rfl
  · obtain ⟨d, l, ns, m, n, rfl, D, hn, k⟩ := h
    have nd := sc__law_text.nd
    refine ⟨_, pss_cons (ps_set (i := 1) nd rfl (Or.inl rfl) (pe_lst (pa_strs _ (by decide +kernel))))
      (pss_one (ps_ret (pe_call GP hr (by rfl) M.m__law_pick (F__law_pick w.params).kp (b__law_pick w.params) .nil pass0 (pa_cons (pv 0) (pa_cons (pe_op op_cat (pv 1) (pe_lst (pa_strs _ (by decide +kernel)))) pa_nil))))), ?_⟩
    refine ⟨(by decide +kernel), fun p hp => ?_⟩
    refine ⟨_, rfl, _, rfl, (by decide +kernel), fun p2 hp2 => ⟨p, p2, _, _, rfl, rfl, by rw [upd_ne (ne_of_none (o := .lst (List.map V.str _)) upd_same hp2), upd_same], upd_same, (by decide +kernel), fun p3 hp3 => ?_⟩⟩
    rw [← List.map_append] at *
    refine use_pick (L := 60) (((D.up hp).up hp2).up hp3) (by omega) upd_same (ne_of_none ((D.up hp).up hp2).li hp3).symm (by decide +kernel) (by decide +kernel) (by decide +kernel) fun H' ns' z hz D' fr => ?_
    exact k H' ns' _ z hz D' (by omega) (fr_up hp (fr_up hp2 (fr_up hp3 fr)))
set_option maxHeartbeats 16000000 in
theorem ok_line (M : Mg mg) : FnOk prog w (Kf w.params) mg base CX0 4 1830 fd__law_line ["deck"] (spText 150 4) := by
  have GP : FnOk prog w (Kf w.params) mg base CX0 2 1809 fd__law_pick ["deck", "some"] spPick := ok_pick M
  have GN : FnOk prog w (Kf w.params) mg base CX0 3 1816 fd__law_name ["deck"] (spText 10 1) := ok_name M
  have GT : FnOk prog w (Kf w.params) mg base CX0 3 1823 fd__law_text ["deck"] (spText 60 1) := ok_text M
  refine (F__law_line w.params).ok (sc__law_line) (fun vs H Q E h => ?_) (fun cdv A outer s H vs Q E hr h => ?_)
  · obtain ⟨d, l, ns, m, n, rfl, _⟩ := h
    rfl
  · obtain ⟨d, l, ns, m, n, rfl, D, hn, k⟩ := h
    have nd := sc__law_line.nd
    have hr2 : Room 2 _ := hr.mono (by decide)
    refine ⟨_, pss_cons (ps_set (i := 1) nd rfl (Or.inl rfl) (pe_lst (pa_strs _ (by decide +kernel))))
      (pss_cons (ps_set (i := 2) nd rfl (Or.inl rfl) (pe_call GP hr2 (by rfl) M.m__law_pick (F__law_pick w.params).kp (b__law_pick w.params) .nil pass0 (pa_cons (pv 0) (pa_cons (pe_op op_cat (pv 1) (pe_lst (pa_strs _ (by decide +kernel)))) pa_nil))))
      (pss_cons (ps_if (pt_cmpR op_in_seq (pv 2) (pe_tup (pa_strs _ (by decide +kernel))) (by rfl)) (pss_one (ps_ret (pv 2))) pss_nil)
      (pss_cons (ps_set (i := 3) nd rfl (Or.inl rfl) (pe_op op_add_str (pe_op op_add_str (pv 2) pe_str) (pe_call GN hr (by rfl) M.m__law_name (F__law_name w.params).kp (b__law_name w.params) .nil pass0 (pa_cons (pv 0) pa_nil))))
      (pss_cons (ps_if (pt_cmpR op_in_seq (pv 2) (pe_tup (pa_strs _ (by decide +kernel))) (by rfl)) (pss_one (ps_ret (pe_op op_add_str (pe_op op_add_str (pv 3) pe_str) (pe_call GT hr (by rfl) M.m__law_text (F__law_text w.params).kp (b__law_text w.params) .nil pass0 (pa_cons (pv 0) pa_nil))))) pss_nil)
      (pss_cons (ps_if (pt_cmpR op_eq (pv 2) pe_str (nomark _)) (pss_one (ps_ret (pe_op op_add_str (pe_op op_add_str (pv 3) pe_str) (pe_call GP hr2 (by rfl) M.m__law_pick (F__law_pick w.params).kp (b__law_pick w.params) .nil pass0 (pa_cons (pv 0) (pa_cons (pe_lst (pa_strs _ (by decide +kernel))) pa_nil)))))) pss_nil)
      (pss_cons (ps_if (pt_cmpR op_in_seq (pv 2) (pe_tup (pa_strs _ (by decide +kernel))) (by rfl)) (pss_one (ps_ret (pe_op op_add_str (pe_op op_add_str (pv 3) pe_str) (pe_call GP hr2 (by rfl) M.m__law_pick (F__law_pick w.params).kp (b__law_pick w.params) .nil pass0 (pa_cons (pv 0) (pa_cons (pe_lst (pa_strs _ (by decide +kernel))) pa_nil)))))) pss_nil)
      (pss_cons (ps_if (pt_cmpR op_eq (pv 2) pe_str (nomark _)) (pss_one (ps_ret (pe_op op_add_str (pe_op op_add_str (pe_op op_add_str (pe_op op_add_str (pv 3) pe_str) (pe_call GP hr2 (by rfl) M.m__law_pick (F__law_pick w.params).kp (b__law_pick w.params) .nil pass0 (pa_cons (pv 0) (pa_cons (pe_lst (pa_strs _ (by decide +kernel))) pa_nil)))) pe_str)
          (pe_call GP hr2 (by rfl) M.m__law_pick (F__law_pick w.params).kp (b__law_pick w.params) .nil pass0 (pa_cons (pv 0) (pa_cons (pe_lst (pa_strs _ (by decide +kernel))) pa_nil)))))) pss_nil)
      (pss_one (ps_ret (pv 3)))))))))), ?_⟩
    refine ⟨(by decide +kernel), fun p hp => ?_⟩
    -- word
    refine ⟨_, rfl, _, rfl, (by decide +kernel), fun p2 hp2 => ⟨p, p2, _, _, rfl, rfl, by rw [upd_ne (ne_of_none (o := .lst (List.map V.str _)) upd_same hp2), upd_same], upd_same, (by decide +kernel), fun p3 hp3 => ?_⟩⟩
    rw [← List.map_append] at *
    refine use_pick (L := 9) (((D.up hp).up hp2).up hp3) (by omega) upd_same (ne_of_none ((D.up hp).up hp2).li hp3).symm (by decide +kernel) (by decide +kernel) (by decide +kernel) fun H1 ns1 word hw D1 fr1 => ?_
    have f1 := fr_up hp (fr_up hp2 (fr_up hp3 fr1))
    clear fr1
    dsimp only [gName]
    refine sq_in (i := 2) rfl (by decide +kernel) (fun _ q hq => ?_) (fun _ q hq => ?_)
    · refine ⟨_, rfl, ?_⟩
      exact k _ ns1 _ word (hw.mono (by decide)) (D1.same hq) (by omega) (Frm.trans f1 (Frm.same hq))
    -- line
    have D2 := D1.same hq
    have f2 : Frm d l H q := Frm.trans f1 (Frm.same hq)
    clear f1 D1 hq
    have w1 := hw.len
    have sp1 : (Str.ofString " ").length = 1 := by decide +kernel
    have osp : Okz 1 (Str.ofString " ") := okz_of (by decide +kernel)
    refine ⟨_, rfl, word, _, rfl, rfl, line_len (by omega), _, rfl, d, l, ns1, m, n + 1, rfl, D2, (by show n + 1 + 1 ≤ 100000; omega), fun H3 ns3 n3 nam hz D3 e3 fr3 => ?_⟩
    have z1 := hz.len
    have o2 := hw.app osp
    have o3 := o2.app hz
    refine ⟨_, _, rfl, rfl, line_len (by rw [Str.length_append]; omega), ?_⟩
    have f3 : Frm d l H H3 := Frm.trans f2 fr3
    clear f2 fr3
    dsimp only [gName]
    generalize word ++ Str.ofString " " ++ nam = ln at o3 ⊢
    have l3 := o3.len
    refine sq_in (i := 2) rfl (by decide +kernel) (fun _ H4 h4 => ?_) (fun _ H4 h4 => ?_)
    · refine ⟨_, rfl, _, _, rfl, rfl, line_len (by omega), _, rfl, d, l, ns3, m, n3, rfl, D3.same h4, (by show n3 + 1 ≤ 100000; omega), fun H5 ns5 n5 t ht D5 e5 fr5 => ?_⟩
      have t1 := ht.len
      refine ⟨_, _, rfl, rfl, line_len (by rw [Str.length_append]; omega), ?_⟩
      exact k _ ns5 _ _ (((o3.app osp).app ht).mono (by decide)) D5 (by omega) (Frm.trans (Frm.trans f3 (Frm.same h4)) fr5)
    have D4 := D3.same h4
    have f4 : Frm d l H H4 := Frm.trans f3 (Frm.same h4)
    clear D3 f3 h4
    refine sq_eq (i := 2) rfl (fun _ => ?_) (fun _ => ?_)
    · refine ⟨_, rfl, _, _, rfl, rfl, line_len (by omega), _, rfl, (by decide +kernel), fun p5 hp5 => ?_⟩
      refine use_pick (L := 9) (D4.up hp5) (by omega) upd_same (ne_of_none D4.li hp5).symm (by decide +kernel) (by decide +kernel) (by decide +kernel) fun H5 ns5 t ht D5 fr5 => ?_
      have t1 := ht.len
      refine ⟨_, _, rfl, rfl, line_len (by rw [Str.length_append]; omega), ?_⟩
      exact k _ ns5 _ _ (((o3.app osp).app ht).mono (by decide)) D5 (by omega) (Frm.trans f4 (fr_up hp5 fr5))
    refine sq_in (i := 2) rfl (by decide +kernel) (fun _ H5 h5 => ?_) (fun _ H5 h5 => ?_)
    · refine ⟨_, rfl, _, _, rfl, rfl, line_len (by omega), _, rfl, (by decide +kernel), fun p5 hp5 => ?_⟩
      have D5 := D4.same h5
      refine use_pick (L := 20) (D5.up hp5) (by omega) upd_same (ne_of_none D5.li hp5).symm (by decide +kernel) (by decide +kernel) (by decide +kernel) fun H6 ns6 t ht D6 fr6 => ?_
      have t1 := ht.len
      refine ⟨_, _, rfl, rfl, line_len (by rw [Str.length_append]; omega), ?_⟩
      exact k _ ns6 _ _ (((o3.app osp).app ht).mono (by decide)) D6 (by omega) (Frm.trans (Frm.trans f4 (Frm.same h5)) (fr_up hp5 fr6))
    have D5 := D4.same h5
    have f5 : Frm d l H H5 := Frm.trans f4 (Frm.same h5)
    clear D4 f4 h5
    refine sq_eq (i := 2) rfl (fun _ => ?_) (fun _ => ?_)
    · refine ⟨_, rfl, _, _, rfl, rfl, line_len (by omega), _, rfl, (by decide +kernel), fun p6 hp6 => ?_⟩
      refine use_pick (L := 9) (D5.up hp6) (by omega) upd_same (ne_of_none D5.li hp6).symm (by decide +kernel) (by decide +kernel) (by decide +kernel) fun H6 ns6 t ht D6 fr6 => ?_
      have t1 := ht.len
      have f6 : Frm d l H H6 := Frm.trans f5 (fr_up hp6 fr6)
      refine ⟨_, _, rfl, rfl, line_len (by rw [Str.length_append]; omega), ?_⟩
      refine ⟨_, _, rfl, rfl, line_len (by rw [Str.length_append, Str.length_append]; omega), _, rfl, (by decide +kernel), fun p7 hp7 => ?_⟩
      refine use_pick (L := 9) (D6.up hp7) (by omega) upd_same (ne_of_none D6.li hp7).symm (by decide +kernel) (by decide +kernel) (by decide +kernel) fun H7 ns7 t2 ht2 D7 fr7 => ?_
      have t3 := ht2.len
      refine ⟨_, _, rfl, rfl, line_len (by rw [Str.length_append, Str.length_append, Str.length_append]; omega), ?_⟩
      exact k _ ns7 _ _ (((((o3.app osp).app ht).app osp).app ht2).mono (by decide)) D7 (by omega) (Frm.trans f6 (fr_up hp7 fr7))
    refine ⟨_, rfl, ?_⟩
    exact k _ ns3 _ _ (o3.mono (by decide)) D5 (by omega) f5
end
end K72
end

section
set_option Elab.async false
set_option linter.all false
set_option maxRecDepth 100000
set_option maxHeartbeats 4000000
namespace K72
open PySem PySem.Spec PyProof.Rows L2
open Builtin Builtin.Str
abbrev sp : Str := Str.ofString " "
theorem sp_len : sp.length = 1 := by decide +kernel
/-- signs, one more for each text -/
def mu (xs : List Str) : Nat := (xs.map (·.length)).sum + xs.length
theorem mu_nil : mu [] = 0 := rfl
theorem mu_cons (x : Str) (r : List Str) : mu (x :: r) = x.length + 1 + mu r := by
  unfold mu
  rw [List.map_cons, List.sum_cons, List.length_cons]
  omega
theorem mu_app : ∀ xs ys : List Str, mu (xs ++ ys) = mu xs + mu ys
  | [], ys => by rw [List.nil_append, mu_nil, Nat.zero_add]
  | x :: r, ys => by
    rw [List.cons_append, mu_cons, mu_cons, mu_app r ys]
    omega
theorem mu_sub {xs ys : List Str} (h : List.Sublist xs ys) : mu xs ≤ mu ys := by
  induction h with
  | slnil => exact Nat.le_refl _
  | cons a _ ih =>
    rw [mu_cons]
    omega
  | cons_cons a _ ih =>
    rw [mu_cons, mu_cons]
    omega
theorem mu_rev (xs : List Str) : mu xs.reverse = mu xs := by
  induction xs with
  | nil => rfl
  | cons x r ih =>
    rw [List.reverse_cons, mu_app, mu_cons, mu_cons, mu_nil, ih]
    omega
theorem mu_len (xs : List Str) : xs.length ≤ mu xs := Nat.le_add_left _ _
theorem mu_mem {x : Str} : ∀ {xs : List Str}, x ∈ xs → x.length + 1 ≤ mu xs
  | y :: r, h => by
    rw [mu_cons]
    rcases List.mem_cons.mp h with rfl | h
    · omega
    · have := mu_mem h
      omega
theorem split_mu (z y : Str) (hy : y.length = 1) : mu (Txt.split z y) ≤ z.length + 1 := by
  unfold Txt.split
  split
  · rw [mu_cons, mu_nil]
    omega
  · split
    · rw [mu_cons, mu_nil]
      omega
    · have h := StrLaws.glued_between_self z y (z.length + 1)
      have h2 := congrArg PySem.Str.length h
      rw [size_glued, hy] at h2
      have h3 := length_partsBetween z (occurrences z y 0 z.length (z.length + 1)) 1
      rw [hy] at *
      unfold mu
      omega
theorem split_ne (z y : Str) : Txt.split z y ≠ [] := by
  unfold Txt.split
  split
  · exact List.cons_ne_nil _ _
  · split
    · exact List.cons_ne_nil _ _
    · intro e
      have h := length_partsBetween z (occurrences z y 0 z.length (z.length + 1)) y.length
      rw [e] at h
      cases h
theorem split_asc {z y : Str} (h : ∀ c ∈ z.cps.toList, c < 128) : ∀ x ∈ Txt.split z y, ∀ c ∈ x.cps.toList, c < 128 := by
  intro x hx c hc
  unfold Txt.split at hx
  split at hx
  · cases List.mem_singleton.mp hx
    exact h c hc
  · split at hx
    · cases List.mem_singleton.mp hx
      exact h c hc
    · unfold partsBetween at hx
      obtain ⟨⟨i, j⟩, _, rfl⟩ := List.mem_map.mp hx
      rw [StrLaws.strSub_toList] at hc
      exact h c (List.mem_of_mem_drop (List.mem_of_mem_take hc))
theorem join_len (y : Str) (hy : y.length = 1) (xs : List Str) : (Txt.join y xs).length ≤ mu xs := by
  have h := StrLaws.join_length_le y xs
  rw [hy] at h
  unfold Txt.join mu
  rw [StrLaws.glued_eq_join]
  omega
theorem join_asc {y : Str} (hy : ∀ c ∈ y.cps.toList, c < 128) : ∀ xs : List Str, (∀ x ∈ xs, ∀ c ∈ x.cps.toList, c < 128) → ∀ c ∈ (Str.join y xs).cps.toList, c < 128
  | [], _, c, hc => by cases hc
  | [x], h, c, hc => h x (List.mem_singleton.mpr rfl) c hc
  | x :: z :: r, h, c, hc => by
    have e : Str.join y (x :: z :: r) = x ++ y ++ Str.join y (z :: r) := rfl
    rw [e, Str.cps_append, Str.cps_append, Array.toList_append, Array.toList_append] at hc
    rcases List.mem_append.mp hc with q | q
    · rcases List.mem_append.mp q with q | q
      · exact h x (List.mem_cons_self ..) c q
      · exact hy c q
    · exact join_asc hy (z :: r) (fun u hu => h u (List.mem_cons_of_mem _ hu)) c q
/-- small texts in a list -/
structure Okl (L : Nat) (xs : List Str) : Prop where
  mu : mu xs ≤ L
  asc : ∀ x ∈ xs, ∀ c ∈ x.cps.toList, c < 128
theorem Okl.split {L : Nat} {z : Str} (h : Okz L z) : Okl (L + 1) (Txt.split z sp) := ⟨Nat.le_trans (split_mu z sp sp_len) (by have := h.len; omega), split_asc h.asc⟩
theorem Okl.app {L M : Nat} {xs ys : List Str} (a : Okl L xs) (b : Okl M ys) : Okl (L + M) (xs ++ ys) := ⟨by rw [mu_app]; exact Nat.add_le_add a.mu b.mu, fun x hx => (List.mem_append.mp hx).elim (a.asc x) (b.asc x)⟩
theorem Okl.sub {L : Nat} {xs ys : List Str} (a : Okl L xs) (h : List.Sublist ys xs) : Okl L ys := ⟨Nat.le_trans (mu_sub h) a.mu, fun x hx => a.asc x (h.mem hx)⟩
theorem Okl.one {L : Nat} {z : Str} (a : Okz L z) : Okl (L + 1) [z] := ⟨by rw [mu_cons, mu_nil]; have := a.len; omega, fun x hx => by cases List.mem_singleton.mp hx; exact a.asc⟩
theorem Okl.rev {L : Nat} {xs : List Str} (a : Okl L xs) : Okl L xs.reverse := ⟨by rw [mu_rev]; exact a.mu, fun x hx => a.asc x (List.mem_reverse.mp hx)⟩
theorem Okl.mono {L M : Nat} {xs : List Str} (a : Okl L xs) (h : L ≤ M) : Okl M xs := ⟨Nat.le_trans a.mu h, a.asc⟩
theorem Okl.join {L : Nat} {xs : List Str} (a : Okl L xs) : Okz L (Txt.join sp xs) := ⟨Nat.le_trans (join_len sp sp_len xs) a.mu, by
  unfold Txt.join
  rw [StrLaws.glued_eq_join]
  exact join_asc (by decide +kernel) xs a.asc⟩
theorem Okl.mem {L : Nat} {xs : List Str} (a : Okl L xs) {x : Str} (h : x ∈ xs) : Okz L x := ⟨by have := mu_mem h; have := a.mu; omega, a.asc x h⟩
theorem Okl.jfit {L : Nat} {xs : List Str} (a : Okl L xs) (hL : L ≤ 100000) : (xs.map (·.length)).sum + xs.length * sp.length ≤ 16777216 := by
  have := a.mu
  unfold K72.mu at this
  rw [sp_len]
  omega
theorem Okz.upper {L : Nat} {z : Str} (h : Okz L z) : Okz L (Txt.upper z) := by
  rw [upper_ascii h.asc]
  refine ⟨?_, fun c hc => ?_⟩
  · show (z.cps.map up1).size ≤ L
    rw [Array.size_map]
    exact h.len
  · rw [Array.toList_map] at hc
    obtain ⟨b, hb, rfl⟩ := List.mem_map.mp hc
    have := h.asc b hb
    unfold up1
    split <;> omega
theorem cut_sub (xs : List Str) (lo hi : Option Int) : ∃ ys : List Str, cutV (xs.map V.str) lo hi = ys.map V.str ∧ ys.Sublist xs := by
  unfold cutV
  refine ⟨(xs.drop (HT.sIx (xs.map V.str).length 0 lo)).take (HT.sIx (xs.map V.str).length (xs.map V.str).length hi - HT.sIx (xs.map V.str).length 0 lo), ?_, ?_⟩
  · rw [List.map_take, List.map_drop]
  · exact (List.take_sublist _ _).trans (List.drop_sublist _ _)
end K72
end

section
set_option Elab.async false
set_option linter.all false
set_option maxRecDepth 100000
set_option maxHeartbeats 4000000
namespace K72
open PySem PySem.Spec PyProof.Rows L2
section
variable {X : Cx} {C : Addr} {bmB : List Value} {B newId initId : String}
/-- X() of an own class -/
theorem pmk_none {x : Str} {p pos : Pos} (F : ExcBaseFacts B newId initId bmB) (q : PySem.W.excIn X.K C bmB newId = true) (gC : X.mg x = some (.ref C)) (kC : PySem.W.keepIn X.K (.ref C) = true) (r : Raises X (.ref C)) (hg : Gl X x)
    (hdb : (x == ("__debug__" : Str)) = false := by decide) : L2.PMk X (.Call (.Name x p) [] [] pos) (fun _ H Q => Q (.ref C) none H) := by
  intro pins s σ H Q I h
  refine wpAny_Call_Name_kw (ld_glob I hg gC ?_ hdb)
  refine PySem.W.callWith_K0 I.kIn kC ?_
  obtain ⟨bm, N, nm, qn, bs, hdct, sn, sub, ab, col, dd, k0, k1, k2, k3, k5, mN, hC, hN, hni, T⟩ := exc_obj I.kIn q
  refine wpAny_call_exc_subT F T hC hN hni (fun h' e hm => ?_) (Nat.zero_le _)
  exact L2.mk_of I hm r h (I.hok.gone hm.new)
end
section
variable {X : Cx} {CX : CXT} {k : Nat} {f : Addr} {fd : FuncData} {ps ks : List Str} {sp : Sp} {E : L2.St → XK} {x : Str} {p pos : Pos} {kws : List Keyword} {tk : TA} {g : List Value → List Value → List Value} {gV : List V → List V → List V}
theorem run_fnkS {pins : List (Addr × Obj)} {σ : L2.St} {H : Hp} {s : Shared} {Q : VK} {us ws : List Value} {vs zs : List V} (F : FnOk X.prog X.w X.K X.mg X.base CX k f fd ps sp) (hr : Room k X.A) (hb : KBinds X.K fd ps ks g gV) (hx : PassesAt CX X σ (E σ))
    (I : Inv X pins σ H s) (r : Vals vs us) (rz : Vals zs ws) (h : sp (gV vs zs) H Q (E σ)) : wpAny (model X.prog X.w) X.A (call (.ref f) us (ks.zip ws)) (EP X pins σ Q) X.xe s := by
  have r2 := hb.rel r rz
  have hl : (g us ws).length = ps.length := by rw [← r2.length]; exact F.len _ _ _ _ h
  refine wpAny_call (codeAny_mono (F.run X.A X.stack s H ⟨us, ks.zip ws⟩ (g us ws) (gV vs zs) Q (E σ) hr I.env0 (hb.to s us ws I.kIn hl) r2 h) fun r s' hq => ?_)
  cases r with
  | error e => exact hx pins H s e s' I hq
  | ok fl =>
    cases fl with
    | ret u => exact I.after hq
    | next => exact False.elim hq
    | brk => exact False.elim hq
    | cont => exact False.elim hq
/-- x(k = e, ..): keywords alone -/
theorem pe_callK0S (F : FnOk X.prog X.w X.K X.mg X.base CX k f fd ps sp) (hr : Room k X.A) (hg : Gl X x) (hm : X.mg x = some (.ref f)) (hk : PySem.W.keepIn X.K (.ref f) = true) (hb : KBinds X.K fd ps ks g gV) (hx : ∀ σ, PassesAt CX X σ (E σ))
    (hkw : PK X kws tk) (hall : (backToKw pos (keywordEach kws X.env)).all (·.1.isSome) = true := by rfl) (hks : (backToKw pos (keywordEach kws X.env)).filterMap (·.1) = ks := by rfl)
    (hdb : (x == ("__debug__" : Str)) = false := by decide)
    (hpl : ((backTo pos (starEach [] X.env)).any (·.1) || (backToKw pos (keywordEach kws X.env)).any (·.1.isNone)) = false := by rfl) :
    PE X (.Call (.Name x p) [] kws pos) (fun σ H Q => tk σ H fun zs H2 => sp (gV [] zs) H2 Q (E σ)) := by
  refine ⟨fun pins s σ H Q I h => ?_⟩
  refine wpAny_Call_Name_kw (ld_glob I hg hm ?_ hdb)
  refine PySem.W.callWith_KW0 (h₀ := X.base) I.ok.mod.kin hk hall (thn (hkw.run pos pins s σ H _ I h) fun ws s2 ⟨zs, H2, I2, rz, q2⟩ => ⟨I2.kIn, ?_⟩) hpl
  rw [hks]
  exact run_fnkS (us := []) F hr hb (hx σ) I2 .nil rz q2
end
section
variable {X : Cx} {o e f : Expr} {to te : TE} {y z : Str} {apos pos : Pos}
/-- o.replace(NAME, NAME), module texts with tokens -/
theorem pe_replN {n1 n2 : Str} {t u : Tok} {p1 p2 : Pos} (ho : PE X o to) (g1 : Gl X n1) (m1 : X.mg n1 = some (.str y t)) (g2 : Gl X n2) (m2 : X.mg n2 = some (.str z u)) (ht : t ≠ 0 := by decide) (hu : u ≠ 0 := by decide) (htu : t ≠ u := by decide)
    (hyz : (y == z) = false := by decide) (d1 : (n1 == ("__debug__" : Str)) = false := by decide) (d2 : (n2 == ("__debug__" : Str)) = false := by decide)
    (hst : starEach [.Name n1 p1, .Name n2 p2] X.env = [(false, eval (.Name n1 p1) X.env), (false, eval (.Name n2 p2) X.env)] := by rfl)
    (hbase : attributeBase o "replace" X.env (eval o X.env) = eval o X.env := by rfl) (hline : (apos.endLine == pos.line) = true := by rfl) :
    PE X (.Call (.Attribute o "replace" apos) [.Name n1 p1, .Name n2 p2] [] pos) (CwR.tReplC to y z) := by
  refine ⟨fun pins s σ H Q I h => ?_⟩
  refine PySem.Call_method2 hbase hst hline (thn (ho.run pins s σ H _ I h) fun v s1 q => ?_)
  obtain ⟨v', H1, I1, r1, x, e1, hb, q⟩ := q
  subst e1
  obtain ⟨tx, e2⟩ := r1
  subst e2
  refine ⟨"str", _, PySem.F.plainAttrs_str, PySem.F.slot_str_replace, PySem.F.type_str_replace, typeIs_str _ _ _, (fun _ e => nomatch e), Calls.callWith_builtin rfl (Calls.evalArgs_plain (Calls.spliced_cons ?_))⟩
  refine ld_glob I1 g1 m1 (Calls.spliced_cons (ld_glob I1 g2 m2 (Calls.spliced_nil ?_) d2)) d1
  exact PySem.SC.replace ht hu htu hyz hb fun t' k => ⟨.str (Txt.replace x y z), H1, I1.tok k, ⟨t', rfl⟩, q⟩
/-- an expression after which a token has been given out -/
def PEt (X : Cx) (e : Expr) (t : TE) : Prop := ∀ (pins : List (Addr × Obj)) (s : Shared) (σ : L2.St) (H : Hp) (Q : VK), Inv X pins σ H s → t σ H Q →
  wpAny (model X.prog X.w) X.A (eval e X.env) (fun u s' => 1 ≤ s'.toks ∧ EP X pins σ Q u s') X.xe s
/-- 'y'.join(e) -/
theorem pet_joinC {c : Str} {j : Nat} {cp : Pos} (he : PE X e te) (hs : starEach [e] X.env = [(false, eval e X.env)] := by rfl)
    (hbase : attributeBase (.Constant (.str c) j cp) "join" X.env (eval (.Constant (.str c) j cp) X.env) = eval (.Constant (.str c) j cp) X.env := by rfl) (hline : (apos.endLine == pos.line) = true := by rfl) :
    PEt X (.Call (.Attribute (.Constant (.str c) j cp) "join" apos) [e] [] pos) (fun σ H Q => te σ H fun y H1 => ∃ p, ∃ ys : List Str, y = .ref p ∧ (SqL X.K H1 p (ys.map V.str) ∨ SqT X.K H1 p (ys.map V.str)) ∧
      (ys.map (·.length)).sum + ys.length * c.length ≤ 16777216 ∧ Q (.str (Txt.join c ys)) H1) := by
  intro pins s σ H Q I h
  refine PySem.Call_method1 hbase hs hline (Calls.Constant_str ?_)
  refine ⟨"str", _, PySem.F.plainAttrs_str, PySem.F.slot_str_join, PySem.F.type_str_join, typeIs_str _ _ _, (fun _ e => nomatch e), ?_⟩
  refine wpAny_mono (PySem.wpAny_toks_of (n := 1) (Q := EP X pins σ Q) (E := X.xe) (by show 1 ≤ s.toks + 1; omega) (Calls.callWith_builtin rfl (Calls.evalArgs_plain (Calls.spliced_cons ?_)))) (fun u s' z => z) (fun e s' z => z.2)
  refine thn (he.run pins _ σ H _ (I.tok _) h) fun u s2 ⟨y, H2, I2, r2, p, ys, ey, hp, hz, q2⟩ => Calls.spliced_nil ?_
  subst ey
  exact mt_join pins s2 σ H2 (.str c) [.ref p] _ [u] Q I2 ⟨_, rfl⟩ (.cons r2 .nil) ⟨c, p, ys, rfl, rfl, hp, hz, q2⟩
theorem pe_replPt {j k : Nat} {c0 c1 : Pos} (ho : PEt X o to) (hyz : (y == z) = false := by decide)
    (hst : starEach [.Constant (.str y) j c0, .Constant (.str z) k c1] X.env = [(false, eval (.Constant (.str y) j c0) X.env), (false, eval (.Constant (.str z) k c1) X.env)] := by rfl)
    (hbase : attributeBase o "replace" X.env (eval o X.env) = eval o X.env := by rfl) (hline : (apos.endLine == pos.line) = true := by rfl) :
    PE X (.Call (.Attribute o "replace" apos) [.Constant (.str y) j c0, .Constant (.str z) k c1] [] pos) (CwR.tReplC to y z) := by
  refine ⟨fun pins s σ H Q I h => ?_⟩
  refine PySem.Call_method2 hbase hst hline (thn (ho pins s σ H _ I h) fun v s1 q => ?_)
  obtain ⟨hk, v', H1, I1, r1, x, e1, hb, q⟩ := q
  subst e1
  obtain ⟨tx, e2⟩ := r1
  subst e2
  refine ⟨"str", _, PySem.F.plainAttrs_str, PySem.F.slot_str_replace, PySem.F.type_str_replace, typeIs_str _ _ _, (fun _ e => nomatch e), Calls.callWith_builtin rfl (Calls.evalArgs_plain (Calls.spliced_cons ?_))⟩
  refine Calls.Constant_str (Calls.spliced_cons (Calls.Constant_str (Calls.spliced_nil ?_)))
  exact PySem.SC.replace (by show s1.toks ≠ 0; omega) (by show s1.toks + 1 ≠ 0; omega) (by show s1.toks ≠ s1.toks + 1; omega) hyz hb fun t' k => ⟨.str (Txt.replace x y z), H1, I1.tok k, ⟨t', rfl⟩, q⟩
/-- T.get(e), T a written dict with text keys -/
def tKGet (es : Array DictEntry) (te : TE) : TE := fun σ H Q => te σ H fun v H1 => ∃ x, v = .str x ∧ ∃ y : V, RelV y ((findBy Value.isStrOf es x).getD .none) ∧ Q y H1
theorem pe_kget {D : Addr} {es : Array DictEntry} {n : Nat} {x : Str} {p : Pos} (KD : KDict X.K X.w D es n) (hg : Gl X x) (hm : X.mg x = some (.ref D)) (he : PE X e te) (m : M1 X (.Name x p) "get" apos e pos) (hd : (x == ("__debug__" : Str)) = false := by decide) :
    PE X (.Call (.Attribute (.Name x p) "get" apos) [e] [] pos) (tKGet es te) := by
  refine ⟨fun pins s σ H Q I h => ?_⟩
  refine wpAny_Call_method m.base m.few m.line PySem.F.plainAttrs_dict PySem.F.slot_dict_get PySem.F.type_dict_get (ld_glob I hg hm ?_ hd)
  have mo := fun (s : Shared) (I : Inv X pins σ H s) => PySem.W.mapOf_K (prog := X.prog) (w := X.w) I.kIn KD.at_ KD.lit
  refine ⟨(mo s I).typeIs, fun a ea => by cases ea; exact ⟨_, I.kIn _ _ KD.at_, rfl⟩, ?_⟩
  rw [m.trees]
  refine Calls.callWith_builtin rfl (Calls.evalArgs_plain (Calls.spliced_cons (thn (he.run pins s σ H _ I h) fun iv s2 ⟨y, H2, I2, ry, z, ez, v0, rv, q2⟩ => Calls.spliced_nil ?_)))
  subst ez
  obtain ⟨t, et⟩ := ry
  subst et
  refine call_meetsIn PySem.F.slot_dict_get (PySem.W.mapOf_K (prog := X.prog) (w := X.w) I2.kIn KD.at_ KD.lit).typeIs PySem.F.entry_dict_get (PySem.F.args_dict_get_2 _ _) (meets_dict_get (PySem.strKind X.prog X.w) D (PySem.strKind_is X.prog X.w z t) KD.low) ⟨_, PySem.W.mapOf_K (prog := X.prog) I2.kIn KD.at_ KD.lit, ?_⟩
  exact ⟨v0, H2, I2.tok _, rv, q2⟩
end
/-- how an own exception leaves -/
def CXN (P : Program) (w : World) : CXT := L2.CX P w
end K72
end

section
set_option Elab.async false
set_option linter.all false
set_option maxRecDepth 100000
set_option maxHeartbeats 16000000
namespace K72
open PySem PySem.Spec PyProof.Rows L2
theorem sl_new {K : PySem.W.Frag} {H : Hp} {a : Addr} {xs : List Str} {lo hi : Option Int} {Q : VK} (h : H a = some (.lst (xs.map V.str)))
    (k : ∀ (p : Addr) (ys : List Str), H p = none → List.Sublist ys xs → Q (.ref p) (upd H p (.lst (ys.map V.str)))) : rSlL K (.ref a) lo hi H Q := by
  refine ⟨a, _, rfl, SqL.of h, fun p hp => ?_⟩
  obtain ⟨ys, e, hs⟩ := cut_sub xs lo hi
  rw [e]
  exact k p ys hp hs
theorem cat_new {H : Hp} {a b : Addr} {xs ys : List Str} {Q : VK} (h : H a = some (.lst (xs.map V.str))) (h2 : H b = some (.lst (ys.map V.str))) (hl : mu xs + mu ys ≤ 100000)
    (k : ∀ p, H p = none → Q (.ref p) (upd H p (.lst ((xs ++ ys).map V.str)))) : rCat (.ref a) (.ref b) H Q := by
  refine ⟨a, b, _, _, rfl, rfl, h, h2, ?_, fun p hp => ?_⟩
  · have := mu_len xs
    have := mu_len ys
    rw [List.length_map, List.length_map]
    exact line_len (by omega)
  · rw [← List.map_append]
    exact k p hp
theorem sq_eqI {D : Ends} {σ : L2.St} {H : Hp} {i : Nat} {x y : Int} {a u : TS} (h : σ[i]? = some (some (.int x))) (ht : a { D with nx := u D } σ H) (hf : u D σ H) :
    tSeq (tIfS (tTest (tOp rEq (tVar i) (tC (.int y)))) a tNext) u D σ H := by
  refine ⟨_, h, rfl, _, rfl, ?_⟩
  cases decide (V.int x = V.int y) with
  | true => exact iteT ht
  | false => exact iteF hf
def spBent (L : Nat) : Sp := fun vs H Q _ => ∃ (d l : Addr) (ns : List Int) (m n : Int) (z : Str), vs = [.ref d, .str z] ∧ Okz L z ∧ DeckAt H d l ns m n ∧ n + 3 ≤ 100000 ∧
  ∀ (H' : Hp) (ns' : List Int) (n' : Int) (y : Str), Okz (2 * L + 20) y → DeckAt H' d l ns' m n' → n' ≤ n + 3 → Frm d l H H' → Q (.str y) H'
section
variable {w : World} {mg : Str → Option Value} {base : Heap}
theorem ok_bent (M : Mg mg) (L : Nat) (hL : L ≤ 900) : FnOk prog w (Kf w.params) mg base CX0 3 1837 fd__law_bent ["deck", "line"] (spBent L) := by
  have GD : FnOk prog w (Kf w.params) mg base CX0 1 1802 fd__law_draw ["deck", "below"] spDraw := ok_draw M
  have GP : FnOk prog w (Kf w.params) mg base CX0 2 1809 fd__law_pick ["deck", "some"] spPick := ok_pick M
  refine (F__law_bent w.params).ok (sc__law_bent) (fun vs H Q E h => ?_) (fun cdv A outer s H vs Q E hr h => ?_)
  · obtain ⟨d, l, ns, m, n, z, rfl, _⟩ := h
    rfl
  · obtain ⟨d, l, ns, m, n, z, rfl, hz, D, hn, k⟩ := h
    have nd := sc__law_bent.nd
    have hr1 : Room 1 _ := hr.mono (by decide)
    refine ⟨_, (pss_cons (ps_set (i := 2) nd rfl (Or.inl rfl) (pe_split (pv 1) pe_str))
      (pss_cons (ps_par (i := 3) (j := 4) rfl nd rfl rfl (by decide) rfl rfl (pa_cons (pe_call GD hr1 (by rfl) M.m__law_draw (F__law_draw w.params).kp (b__law_draw w.params) .nil pass0 (pa_cons (pv 0) (pa_cons (pe_callB call_len_seq (by rfl) M.m_len PySem.boot_len (pa_cons (pv 2) pa_nil)) pa_nil))) (pa_cons (pe_call GD hr1 (by rfl) M.m__law_draw (F__law_draw w.params).kp (b__law_draw w.params) .nil pass0 (pa_cons (pv 0) (pa_cons pe_int pa_nil))) pa_nil)) (by rfl))
      (pss_cons (ps_if (pt_cmpR op_eq (pv 4) pe_int (nomark _)) (pss_one (ps_ret (pe_join pe_str (pe_op op_cat (pe_slice sl_list (pv 2) po_none (po_some (pv 3))) (pe_slice sl_list (pv 2) (po_some (pe_op op_add (pv 3) pe_int)) po_none))))) pss_nil)
      (pss_cons (ps_if (pt_cmpR op_eq (pv 4) pe_int (nomark _)) (pss_one (ps_ret (pe_join pe_str (pe_op op_cat (pe_op op_cat (pe_slice sl_list (pv 2) po_none (po_some (pv 3))) (pe_lst (pa_cons (pe_call GP hr (by rfl) M.m__law_pick (F__law_pick w.params).kp (b__law_pick w.params) .nil pass0 (pa_cons (pv 0) (pa_cons (pe_lst (pa_strs _ (by decide +kernel))) pa_nil))) pa_nil))) (pe_slice sl_list (pv 2) (po_some (pv 3)) po_none))))) pss_nil)
      (pss_cons (ps_if (pt_cmpR op_eq (pv 4) pe_int (nomark _)) (pss_one (ps_ret (pe_join pe_str (pe_op op_cat (pe_op op_cat (pe_slice sl_list (pv 2) po_none (po_some (pv 3))) (pe_lst (pa_strs _ (by decide +kernel)))) (pe_slice sl_list (pv 2) (po_some (pv 3)) po_none))))) pss_nil)
      (pss_cons (ps_if (pt_cmpR op_eq (pv 4) pe_int (nomark _)) (pss_one (ps_ret (pe_op op_add_str (pv 1) (pe_call GP hr (by rfl) M.m__law_pick (F__law_pick w.params).kp (b__law_pick w.params) .nil pass0 (pa_cons (pv 0) (pa_cons (pe_lst (pa_strs _ (by decide +kernel))) pa_nil)))))) pss_nil)
      (pss_cons (ps_if (pt_cmpR op_eq (pv 4) pe_int (nomark _)) (pss_one (ps_ret (pe_op op_add_str (pe_call GP hr (by rfl) M.m__law_pick (F__law_pick w.params).kp (b__law_pick w.params) .nil pass0 (pa_cons (pv 0) (pa_cons (pe_lst (pa_strs _ (by decide +kernel))) pa_nil))) (pv 1)))) pss_nil)
      (pss_cons (ps_if (pt_cmpR op_eq (pv 4) pe_int (nomark _)) (pss_one (ps_ret (pe_join pe_str (pe_op op_cat (pe_lst (pa_cons (pe_upper (pe_ix ix_list (pv 2) pe_int (fun _ _ => rfl))) pa_nil)) (pe_slice sl_list (pv 2) (po_some pe_int) po_none))))) pss_nil)
      (pss_cons (ps_if (pt_cmpR op_eq (pv 4) pe_int (nomark _)) (pss_one (ps_ret (pe_join pe_str (pe_op op_cat (pe_lst (pa_cons (pe_call GP hr (by rfl) M.m__law_pick (F__law_pick w.params).kp (b__law_pick w.params) .nil pass0 (pa_cons (pv 0) (pa_cons (pe_lst (pa_strs _ (by decide +kernel))) pa_nil))) pa_nil)) (pe_slice sl_list (pv 2) (po_some pe_int) po_none))))) pss_nil)
      (pss_one (ps_ret (pe_join pe_str (pe_revL (pv 2)))))))))))))), ?_⟩
    have hzl := hz.len
    refine ⟨_, rfl, ⟨_, rfl⟩, z, sp, rfl, rfl, by decide +kernel, line_len (by omega), fun p hp => ?_⟩
    dsimp only [gName]
    have oW := Okl.split hz
    have nW := split_ne z sp
    generalize Txt.split z sp = ws at oW nW ⊢
    have lW : ws.length ≤ L + 1 := Nat.le_trans (mu_len ws) oW.mu
    have lW0 : 0 < ws.length := List.length_pos_iff.mpr nW
    have D0 : DeckAt (upd H p (.lst (ws.map V.str))) d l ns m n := D.up hp
    have pd : p ≠ d := (ne_of_none D.dc hp).symm
    have pl : p ≠ l := (ne_of_none D.li hp).symm
    have f0 : Frm d l H (upd H p (.lst (ws.map V.str))) := Frm.same (Same.up hp)
    have hW : upd H p (.lst (ws.map V.str)) p = some (.lst (ws.map V.str)) := upd_same
    generalize upd H p (.lst (ws.map V.str)) = H0 at D0 f0 hW ⊢
    -- at, way
    refine ⟨_, rfl, _, rfl, p, _, rfl, .inl (SqL.of hW), d, l, ns, m, n, _, rfl, D0, by omega, by rw [List.length_map]; omega, by rw [List.length_map]; omega, fun H1 ns1 at_ a0 a1 D1 fr1 => ?_⟩
    refine ⟨_, rfl, d, l, ns1, m, n + 1, 8, rfl, D1, by omega, by decide, by decide, fun H2 ns2 way w0 w1 D2 fr2 => ?_⟩
    refine ⟨_, _, rfl, ?_⟩
    have f2 : Frm d l H H2 := Frm.trans f0 (Frm.trans fr1 fr2)
    have hW2 : H2 p = some (.lst (ws.map V.str)) := fr2 _ _ (fr1 _ _ hW pd pl) pd pl
    clear fr1 fr2 f0 hW D0 D1 D
    have osp : Okz 1 sp := okz_of (by decide +kernel)
    refine sq_eqI (i := 4) rfl ?_ ?_
    · refine ⟨⟨_, rfl⟩, _, rfl, _, rfl, at_, rfl, sl_new hW2 fun q ys hq hs => ?_⟩
      have hW3 : upd H2 q (.lst (ys.map V.str)) p = some (.lst (ws.map V.str)) := by rw [upd_ne (ne_of_none hW2 hq)]; exact hW2
      refine ⟨_, rfl, _, rfl, _, _, rfl, rfl, at_ + 1, rfl, ?_⟩
      dsimp only [tNoPart]
      refine sl_new hW3 fun q2 ys2 hq2 hs2 => ?_
      have o1 := oW.sub hs
      have o2 := oW.sub hs2
      have m1 := o1.mu
      have m2 := o2.mu
      refine cat_new (by rw [upd_ne (ne_of_none (o := .lst (ys.map V.str)) upd_same hq2)]; exact upd_same) upd_same (by omega) fun q3 hq3 => ?_
      have o3 := o1.app o2
      refine ⟨_, q3, _, rfl, rfl, .inl (SqL.of upd_same), o3.jfit (by omega), ?_⟩
      exact k _ ns2 _ _ (o3.join.mono (by omega)) (((D2.up hq).up hq2).up hq3) (by omega) (Frm.trans f2 (Frm.same (((Same.up hq).trans (Same.up hq2)).trans (Same.up hq3))))
    refine sq_eqI (i := 4) rfl ?_ ?_
    · refine ⟨⟨_, rfl⟩, _, rfl, _, rfl, at_, rfl, sl_new hW2 fun q ys hq hs => ?_⟩
      have o1 := oW.sub hs
      have m1 := o1.mu
      have s1 : Same H2 (upd H2 q (.lst (ys.map V.str))) := Same.up hq
      refine ⟨_, rfl, (by decide +kernel), fun q1 hq1 => ?_⟩
      refine use_pick (L := 5) ((D2.up hq).up hq1) (by omega) upd_same (ne_of_none (D2.up hq).li hq1).symm (by decide +kernel) (by decide +kernel) (by decide +kernel) fun H3 ns3 t ht D4 fr3 => ?_
      have f3 : Frm d l (upd H2 q (.lst (ys.map V.str))) H3 := fr_up hq1 fr3
      have ql : q ≠ l := (ne_of_none D2.li hq).symm
      have qd : q ≠ d := (ne_of_none D2.dc hq).symm
      have hq3 : H3 q = some (.lst (ys.map V.str)) := f3 _ _ upd_same qd ql
      have hW3 : H3 p = some (.lst (ws.map V.str)) := f3 _ _ (s1 _ _ hW2) pd pl
      refine ⟨(by show 1 ≤ sizeLine; decide), fun q4 hq4 => ?_⟩
      have o4 : Okl (5 + 1) [t] := Okl.one ht
      have m4 := o4.mu
      refine cat_new (xs := ys) (ys := [t]) (by rw [upd_ne (ne_of_none hq3 hq4)]; exact hq3) upd_same (by omega) fun q5 hq5 => ?_
      have hW5 := (Same.up (o := .lst ((ys ++ [t]).map V.str)) hq5) _ _ ((Same.up (o := .lst ([t].map V.str)) hq4) _ _ hW3)
      refine ⟨_, rfl, _, rfl, at_, rfl, ?_⟩
      dsimp only [tNoPart]
      refine sl_new hW5 fun q6 ys6 hq6 hs6 => ?_
      have o6 := oW.sub hs6
      have m6 := o6.mu
      have o5 := o1.app o4
      have m5 := o5.mu
      refine cat_new (xs := ys ++ [t]) (ys := ys6) (by rw [upd_ne (ne_of_none (o := .lst ((ys ++ [t]).map V.str)) upd_same hq6)]; exact upd_same) upd_same (by omega) fun q7 hq7 => ?_
      have o7 := o5.app o6
      refine ⟨_, q7, _, rfl, rfl, .inl (SqL.of upd_same), o7.jfit (by omega), ?_⟩
      exact k _ ns3 _ _ (o7.join.mono (by omega)) ((((D4.up hq4).up hq5).up hq6).up hq7) (by omega) (Frm.trans f2 (Frm.trans (Frm.same s1) (Frm.trans f3 (Frm.same ((((Same.up hq4).trans (Same.up hq5)).trans (Same.up hq6)).trans (Same.up hq7))))))
    refine sq_eqI (i := 4) rfl ?_ ?_
    · refine ⟨⟨_, rfl⟩, _, rfl, _, rfl, at_, rfl, sl_new hW2 fun q ys hq hs => ?_⟩
      have o1 := oW.sub hs
      have m1 := o1.mu
      refine ⟨(by show 1 ≤ sizeLine; decide), fun q4 hq4 => ?_⟩
      have o4 : Okl 1 [Str.ofString ""] := Okl.one (L := 0) (okz_of (by decide +kernel))
      have m4 := o4.mu
      refine cat_new (xs := ys) (ys := [Str.ofString ""]) (by rw [upd_ne (ne_of_none (o := .lst (ys.map V.str)) upd_same hq4)]; exact upd_same) upd_same (by omega) fun q5 hq5 => ?_
      have hW5 := (Same.up (o := .lst ((ys ++ [Str.ofString ""]).map V.str)) hq5) _ _ ((Same.up (o := .lst ([Str.ofString ""].map V.str)) hq4) _ _ ((Same.up (o := .lst (ys.map V.str)) hq) _ _ hW2))
      refine ⟨_, rfl, _, rfl, at_, rfl, ?_⟩
      dsimp only [tNoPart]
      refine sl_new hW5 fun q6 ys6 hq6 hs6 => ?_
      have o6 := oW.sub hs6
      have m6 := o6.mu
      have o5 := o1.app o4
      have m5 := o5.mu
      refine cat_new (xs := ys ++ [Str.ofString ""]) (ys := ys6) (by rw [upd_ne (ne_of_none (o := .lst ((ys ++ [Str.ofString ""]).map V.str)) upd_same hq6)]; exact upd_same) upd_same (by omega) fun q7 hq7 => ?_
      have o7 := o5.app o6
      refine ⟨_, q7, _, rfl, rfl, .inl (SqL.of upd_same), o7.jfit (by omega), ?_⟩
      exact k _ ns2 _ _ (o7.join.mono (by omega)) (((((D2.up hq).up hq4).up hq5).up hq6).up hq7) (by omega) (Frm.trans f2 (Frm.same (((((Same.up hq).trans (Same.up hq4)).trans (Same.up hq5)).trans (Same.up hq6)).trans (Same.up hq7))))
    refine sq_eqI (i := 4) rfl ?_ ?_
    · refine ⟨_, rfl, _, rfl, (by decide +kernel), fun q1 hq1 => ?_⟩
      refine use_pick (L := 5) (D2.up hq1) (by omega) upd_same (ne_of_none D2.li hq1).symm (by decide +kernel) (by decide +kernel) (by decide +kernel) fun H3 ns3 t ht D4 fr3 => ?_
      have t1 := ht.len
      refine ⟨_, _, rfl, rfl, line_len (by omega), ?_⟩
      exact k _ ns3 _ _ ((hz.app ht).mono (by omega)) D4 (by omega) (Frm.trans f2 (fr_up hq1 fr3))
    refine sq_eqI (i := 4) rfl ?_ ?_
    · refine ⟨_, rfl, (by decide +kernel), fun q1 hq1 => ?_⟩
      refine use_pick (L := 5) (D2.up hq1) (by omega) upd_same (ne_of_none D2.li hq1).symm (by decide +kernel) (by decide +kernel) (by decide +kernel) fun H3 ns3 t ht D4 fr3 => ?_
      have t1 := ht.len
      refine ⟨_, rfl, _, _, rfl, rfl, line_len (by omega), ?_⟩
      exact k _ ns3 _ _ ((ht.app hz).mono (by omega)) D4 (by omega) (Frm.trans f2 (fr_up hq1 fr3))
    obtain ⟨w0_, wr, rfl⟩ : ∃ a r, ws = a :: r := by
      cases ws with
      | nil => exact absurd rfl nW
      | cons a r => exact ⟨a, r, rfl⟩
    refine sq_eqI (i := 4) rfl ?_ ?_
    · have ow := oW.mem (List.mem_cons_self ..)
      have lw := ow.len
      refine ⟨⟨_, rfl⟩, ⟨_, rfl, p, _, 0, .str w0_, rfl, rfl, SqL.of hW2, atI_nat (j := 0) rfl, ⟨w0_, rfl⟩, w0_, rfl, rfl, (by omega), (by show 1 ≤ sizeLine; decide), fun q1 hq1 => ?_⟩⟩
      have hW3 := (Same.up (o := .lst ([Txt.upper w0_].map V.str)) hq1) _ _ hW2
      refine ⟨_, rfl, 1, rfl, ?_⟩
      dsimp only [tNoPart]
      refine sl_new hW3 fun q2 ys2 hq2 hs2 => ?_
      have o1 := Okl.one ow.upper
      have o2 := oW.sub hs2
      have m1 := o1.mu
      have m2 := o2.mu
      refine cat_new (xs := [Txt.upper w0_]) (ys := ys2) (by rw [upd_ne (ne_of_none (o := .lst ([Txt.upper w0_].map V.str)) upd_same hq2)]; exact upd_same) upd_same (by omega) fun q3 hq3 => ?_
      have o3 := o1.app o2
      refine ⟨_, q3, _, rfl, rfl, .inl (SqL.of upd_same), o3.jfit (by omega), ?_⟩
      exact k _ ns2 _ _ (o3.join.mono (by omega)) (((D2.up hq1).up hq2).up hq3) (by omega) (Frm.trans f2 (Frm.same (((Same.up hq1).trans (Same.up hq2)).trans (Same.up hq3))))
    refine sq_eqI (i := 4) rfl ?_ ?_
    · refine ⟨⟨_, rfl⟩, _, rfl, (by decide +kernel), fun q1 hq1 => ?_⟩
      refine use_pick (L := 10) (D2.up hq1) (by omega) upd_same (ne_of_none D2.li hq1).symm (by decide +kernel) (by decide +kernel) (by decide +kernel) fun H3 ns3 t ht D4 fr3 => ?_
      have f3 : Frm d l H2 H3 := fr_up hq1 fr3
      refine ⟨(by show 1 ≤ sizeLine; decide), fun q4 hq4 => ?_⟩
      have hW3 := (Same.up (o := .lst ([t].map V.str)) hq4) _ _ (f3 _ _ hW2 pd pl)
      refine ⟨_, rfl, 1, rfl, ?_⟩
      dsimp only [tNoPart]
      refine sl_new hW3 fun q6 ys6 hq6 hs6 => ?_
      have o4 := Okl.one ht
      have m4 := o4.mu
      have o6 := oW.sub hs6
      have m6 := o6.mu
      refine cat_new (xs := [t]) (ys := ys6) (by rw [upd_ne (ne_of_none (o := .lst ([t].map V.str)) upd_same hq6)]; exact upd_same) upd_same (by omega) fun q7 hq7 => ?_
      have o7 := o4.app o6
      refine ⟨_, q7, _, rfl, rfl, .inl (SqL.of upd_same), o7.jfit (by omega), ?_⟩
      exact k _ ns3 _ _ (o7.join.mono (by omega)) (((D4.up hq4).up hq6).up hq7) (by omega) (Frm.trans f2 (Frm.trans f3 (Frm.same (((Same.up hq4).trans (Same.up hq6)).trans (Same.up hq7)))))
    refine ⟨⟨_, rfl⟩, _, rfl, p, _, rfl, SqL.of hW2, fun q1 hq1 => ?_⟩
    have o7 := oW.rev
    rw [← List.map_reverse]
    refine ⟨_, q1, _, rfl, rfl, .inl (SqL.of upd_same), o7.jfit (by omega), ?_⟩
    exact k _ ns2 _ _ (o7.join.mono (by omega)) (D2.up hq1) (by omega) (Frm.trans f2 (Frm.same (Same.up hq1)))
end
end K72
end

section
set_option Elab.async false
set_option linter.all false
set_option maxRecDepth 100000
set_option maxHeartbeats 16000000
namespace K72
open PySem PySem.Spec PyProof.Rows L2
abbrev nl : Str := Str.ofString "\n"
abbrev semi : Str := Str.ofString ";"
abbrev e0 : Str := Str.ofString ""
def hasNl (z : Str) : Bool := !(Builtin.Str.occurrences z nl 0 z.length 1).isEmpty
abbrev wT : List Str := [Str.ofString "open", Str.ofString "renew", Str.ofString "replace"]
abbrev w1 : List Str := [Str.ofString "undo", Str.ofString "redo", Str.ofString "wards"]
abbrev w2 : List Str := [Str.ofString "close", Str.ofString "device", Str.ofString "ward", Str.ofString "face", Str.ofString "log", Str.ofString "lot", Str.ofString "people"]
abbrev w3 : List Str := [Str.ofString "hear", Str.ofString "keeps", Str.ofString "can", Str.ofString "sure", Str.ofString "gap", Str.ofString "ears", Str.ofString "bars"]
abbrev w4 : Str := Str.ofString "learn"
def textOf (ws : List Str) : Str := Txt.replace (Txt.join sp (ws.drop 2)) semi nl
/-- what the words say -/
def dueW : List Str → Option (List Str)
  | [] => none
  | h :: r => if h ∈ wT then (if 2 < (h :: r).length then some [h, r.headD e0, textOf (h :: r)] else none)
    else if h ∈ w1 then (if (h :: r).length = 1 then some (h :: r) else none)
    else if h ∈ w2 then (if (h :: r).length = 2 then some (h :: r) else none)
    else if h ∈ w3 then (if (h :: r).length = 3 then some (h :: r) else none)
    else if h = w4 then (if (h :: r).length = 4 then some (h :: r) else none) else none
theorem dueW_cons (h : Str) (r : List Str) : dueW (h :: r) = if h ∈ wT then (if 2 < (h :: r).length then some [h, r.headD e0, textOf (h :: r)] else none)
    else if h ∈ w1 then (if (h :: r).length = 1 then some (h :: r) else none)
    else if h ∈ w2 then (if (h :: r).length = 2 then some (h :: r) else none)
    else if h ∈ w3 then (if (h :: r).length = 3 then some (h :: r) else none)
    else if h = w4 then (if (h :: r).length = 4 then some (h :: r) else none) else none := rfl
/-- .. and a line -/
def dueZ (z : Str) : Option (List Str) := if hasNl z = true then none else if e0 ∈ Txt.split z sp then none else dueW (Txt.split z sp)
/-- not a str -/
def NoStr (K : PySem.W.Frag) (H : Hp) (v : V) : Prop := ∃ t, TyX K H v t ∧ PySem.W.kitOne K t (.type "str") = some false
def spDue (K : PySem.W.Frag) : Sp := fun vs H Q _ => (∃ z, vs = [.str z] ∧ Okz 1000 z ∧ (dueZ z = none → ∀ H', Same H H' → Q .non H') ∧ ∀ ys, dueZ z = some ys → ∀ H' p, Same H H' → H' p = some (.tup (ys.map V.str)) → Q (.ref p) H') ∨
  ∃ v, vs = [v] ∧ NoStr K H v ∧ Q .non H
theorem isi_str (P : Params) {H : Hp} {z : Str} : TyX (Kf P) H (.str z) (.type "str") := .base (.str z)
theorem kit_str (P : Params) : PySem.W.kitOne (Kf P) (.type "str") (.type "str") = some true := by kernel_rfl
theorem cut_drop (xs : List V) (k : Nat) : cutV xs (some (k : Int)) none = xs.drop k := by
  unfold cutV
  rw [HT.sIx_nat, HT.sIx_none]
  by_cases h : k ≤ xs.length
  · rw [Nat.min_eq_left h]
    exact List.take_of_length_le (by rw [List.length_drop]; exact Nat.le_refl _)
  · rw [Nat.min_eq_right (by omega), List.drop_of_length_le (Nat.le_refl _), List.drop_of_length_le (by omega)]
    exact List.take_nil
theorem cut_take (xs : List V) (k : Nat) : cutV xs none (some (k : Int)) = xs.take k := by
  unfold cutV
  rw [HT.sIx_nat, HT.sIx_none, List.drop_zero, Nat.sub_zero]
  by_cases h : k ≤ xs.length
  · rw [Nat.min_eq_left h]
  · rw [Nat.min_eq_right (by omega), List.take_of_length_le (Nat.le_refl _), List.take_of_length_le (by omega)]
theorem sl_drop {K : PySem.W.Frag} {H : Hp} {a : Addr} {xs : List Str} (k : Nat) {Q : VK} (h : H a = some (.lst (xs.map V.str)))
    (q : ∀ p, H p = none → Q (.ref p) (upd H p (.lst ((xs.drop k).map V.str)))) : rSlL K (.ref a) (some (k : Int)) none H Q := by
  refine ⟨a, _, rfl, SqL.of h, fun p hp => ?_⟩
  rw [cut_drop, ← List.map_drop]
  exact q p hp
theorem sl_take {K : PySem.W.Frag} {H : Hp} {a : Addr} {xs : List Str} (k : Nat) {Q : VK} (h : H a = some (.lst (xs.map V.str)))
    (q : ∀ p, H p = none → Q (.ref p) (upd H p (.lst ((xs.take k).map V.str)))) : rSlL K (.ref a) none (some (k : Int)) H Q := by
  refine ⟨a, _, rfl, SqL.of h, fun p hp => ?_⟩
  rw [cut_take, ← List.map_take]
  exact q p hp
section
variable {w : World} {mg : Str → Option Value} {base : Heap}
theorem ok_due (M : Mg mg) : FnOk prog w (Kf w.params) mg base CX0 1 1844 fd__law_due ["it"] (spDue (Kf w.params)) := by
  refine (F__law_due w.params).ok (sc__law_due) (fun vs H Q E h => ?_) (fun cdv A outer s H vs Q E hr h => ?_)
  · rcases h with ⟨z, rfl, _⟩ | ⟨v, rfl, _⟩ <;> rfl
  · have nd := sc__law_due.nd
    refine ⟨_, (pss_cons (ps_if (PW.pt (pw_or (pt_not (pt_val (pe_callB call_isi (by rfl) M.m_isinstance (by decide +kernel) (pa_cons (pv 0) (pa_cons (pe_bltn (v := .ty "str") (by rfl) M.m_str (by decide +kernel) rfl) pa_nil))))) (pw_or1 (pt_cmpR op_in_str pe_str (pv 0) (by rfl))))) (pss_one (ps_ret pe_non)) pss_nil)
      (pss_cons (ps_set (i := 1) nd rfl (Or.inl rfl) (pe_split (pv 0) pe_str))
      (pss_cons (ps_if (pt_cmpR op_in_seq pe_str (pv 1) (by rfl)) (pss_one (ps_ret pe_non)) pss_nil)
      (pss_cons (ps_par (i := 2) (j := 3) rfl nd rfl rfl (by decide) rfl rfl (pa_cons (pe_ix ix_list (pv 1) pe_int (fun _ _ => rfl)) (pa_cons (pe_callB call_len_seq (by rfl) M.m_len PySem.boot_len (pa_cons (pv 1) pa_nil)) pa_nil)) (by rfl))
      (pss_cons (ps_if (pt_cmpR op_in_seq (pv 2) (pe_tup (pa_strs _ (by decide +kernel))) (by rfl)) (pss_cons (ps_set (i := 4) nd rfl (Or.inl rfl) (pe_replPt (pet_joinC (pe_slice sl_list (pv 1) (po_some pe_int) po_none))))
      (pss_one (ps_ret (pe_ifExp (pt_cmpR op_gt (pv 3) pe_int (nomark _)) (pe_tup (pa_cons (pv 2) (pa_cons (pe_ix ix_list (pv 1) pe_int (fun _ _ => rfl)) (pa_cons (pv 4) pa_nil)))) pe_non)))) pss_nil)
      (pss_cons (ps_if (pt_cmpR op_in_seq (pv 2) (pe_tup (pa_strs _ (by decide +kernel))) (by rfl)) (pss_one (ps_ret (pe_ifExp (pt_cmpR op_eq (pv 3) pe_int (nomark _)) (pe_tup (pa_cons (pv 2) pa_nil)) pe_non))) pss_nil)
      (pss_cons (ps_if (pt_cmpR op_in_seq (pv 2) (pe_tup (pa_strs _ (by decide +kernel))) (by rfl)) (pss_one (ps_ret (pe_ifExp (pt_cmpR op_eq (pv 3) pe_int (nomark _)) (pe_callTy call_tuple_of (by rfl) M.m_tuple boot_tuple (pa_cons (pv 1) pa_nil)) pe_non))) pss_nil)
      (pss_cons (ps_if (pt_cmpR op_in_seq (pv 2) (pe_tup (pa_strs _ (by decide +kernel))) (by rfl)) (pss_one (ps_ret (pe_ifExp (pt_cmpR op_eq (pv 3) pe_int (nomark _)) (pe_callTy call_tuple_of (by rfl) M.m_tuple boot_tuple (pa_cons (pv 1) pa_nil)) pe_non))) pss_nil)
      (pss_one (ps_ret (pe_ifExp (PW.pt (pw_and (pt_cmpR op_eq (pv 2) pe_str (nomark _)) (pw_and1 (pt_cmpR op_eq (pv 3) pe_int (nomark _))))) (pe_callTy call_tuple_of (by rfl) M.m_tuple boot_tuple (pa_cons (pv 1) pa_nil)) pe_non))))))))))), ?_⟩
    rcases h with ⟨z, rfl, hz, k0, k1⟩ | ⟨v, rfl, ⟨t, ht, hk⟩, q⟩
    · refine ⟨_, rfl, _, _, _, _, true, rfl, .ty _, isi_str w.params, kit_str w.params, _, rfl, iteF ⟨_, rfl, _, _, rfl, rfl, _, rfl, ?_⟩⟩
      change ite (hasNl z = true) _ _
      refine ite2 (fun hb => ?_) (fun hb => ?_)
      · exact k0 (by unfold dueZ; rw [if_pos hb]) _ (Same.refl _)
      have hzl := hz.len
      refine ⟨_, rfl, ⟨_, rfl⟩, z, sp, rfl, rfl, by decide +kernel, line_len (by omega), fun p hp => ?_⟩
      dsimp only [gName]
      have oW := Okl.split hz
      have nW := split_ne z sp
      have ez : dueZ z = if e0 ∈ Txt.split z sp then none else dueW (Txt.split z sp) := by unfold dueZ; rw [if_neg hb]
      rw [ez] at k0 k1
      generalize Txt.split z sp = ws at oW nW k0 k1 ⊢
      have mW := oW.mu
      have lW := mu_len ws
      have f0 : Same H (upd H p (.lst (ws.map V.str))) := Same.up hp
      have hW : upd H p (.lst (ws.map V.str)) p = some (.lst (ws.map V.str)) := upd_same
      generalize upd H p (.lst (ws.map V.str)) = H1 at f0 hW ⊢
      refine ⟨_, rfl, p, _, rfl, .inl (SqL.of hW), rfl, flat_strs _, _, rfl, ?_⟩
      rw [if_neg Bool.false_ne_true, inV_strs]
      refine ite2 (fun hb => ?_) (fun hb => ?_)
      · exact k0 (by rw [if_pos (of_decide_eq_true hb)]) _ f0
      rw [if_neg (fun z => hb (decide_eq_true z))] at k0 k1
      obtain ⟨h, r, rfl⟩ : ∃ a r, ws = a :: r := by
        cases ws with
        | nil => exact absurd rfl nW
        | cons a r => exact ⟨a, r, rfl⟩
      refine ⟨_, rfl, p, _, 0, .str h, rfl, rfl, SqL.of hW, atI_nat (j := 0) rfl, _, rfl, p, _, rfl, .inl (SqL.of hW), _, _, rfl, ?_⟩
      rw [List.length_map]
      dsimp only [List.set]
      refine sq_in (i := 2) rfl (by decide +kernel) (fun hm H2 s2 => ?_) (fun hm H2 s2 => ?_)
      · have hW2 := s2 _ _ hW
        have f2 := f0.trans s2
        refine ⟨_, rfl, 2, rfl, ?_⟩
        dsimp only [tNoPart]
        refine sl_drop 2 hW2 fun p3 hp3 => ?_
        have o3 := oW.sub (List.drop_sublist 2 (h :: r))
        have o4 := o3.join
        have l4 := o4.len
        have hW3 : upd H2 p3 (.lst (((h :: r).drop 2).map V.str)) p = some (.lst ((h :: r).map V.str)) := (Same.up hp3) _ _ hW2
        have hm' : h ∈ wT := hm
        have bnd : (Txt.join sp ((h :: r).drop 2)).length + ((Txt.join sp ((h :: r).drop 2)).length + 1) * nl.length ≤ 16777216 := by
          have e1 : nl.length = 1 := by decide +kernel
          rw [e1]
          omega
        refine ⟨p3, _, rfl, .inl (SqL.of upd_same), o3.jfit (by omega), _, rfl, bnd, ?_⟩
        dsimp only [gName, List.set]
        refine ⟨_, rfl, _, _, rfl, rfl, _, rfl, ?_⟩
        refine ite2 (fun hc => ?_) (fun hc => ?_)
        · have hc' : (2 : Int) < (((h :: r).length : Nat) : Int) := of_decide_eq_true hc
          have hl : 2 < (h :: r).length := by omega
          obtain ⟨b, r2, rfl⟩ : ∃ b r2, r = b :: r2 := by
            cases r with
            | nil => exact absurd hl (by show ¬ 2 < 1; decide)
            | cons b r2 => exact ⟨b, r2, rfl⟩
          refine ⟨_, rfl, _, rfl, p, _, 1, .str b, rfl, rfl, SqL.of hW3, atI_nat (j := 1) rfl, _, rfl, (by show 3 ≤ sizeLine; decide), fun p5 hp5 => ?_⟩
          refine k1 [h, b, textOf (h :: b :: r2)] ?_ _ p5 (f2.trans ((Same.up hp3).trans (Same.up hp5))) upd_same
          rw [dueW_cons]
          rw [if_pos hm', if_pos hl]
          rfl
        · refine k0 ?_ _ (f2.trans (Same.up hp3))
          rw [dueW_cons]
          rw [if_pos hm', if_neg (fun z => hc (decide_eq_true (by show (2 : Int) < (((h :: r).length : Nat) : Int); omega)))]
      have f2 := f0.trans s2
      have hW2 := s2 _ _ hW
      clear hW f0 s2
      have hm : h ∉ wT := hm
      refine sq_in (i := 2) rfl (by decide +kernel) (fun hm1 H3 s3 => ?_) (fun hm1 H3 s3 => ?_)
      · refine ⟨_, rfl, rfl, _, rfl, ?_⟩
        have hm1 : h ∈ w1 := hm1
        have ed : dueW (h :: r) = if (h :: r).length = 1 then some (h :: r) else none := by
          show (if h ∈ wT then _ else if h ∈ w1 then (if (h :: r).length = 1 then some (h :: r) else none) else _) = _
          rw [if_neg hm, if_pos hm1]
        refine ite2 (fun hc => ?_) (fun hc => ?_)
        · have hc' : ((h :: r).length : Int) = 1 := V.int.inj (of_decide_eq_true hc)
          have hr0 : r = [] := List.length_eq_zero_iff.mp (by rw [List.length_cons] at hc'; omega)
          subst hr0
          refine ⟨_, rfl, (by show 1 ≤ sizeLine; decide), fun p5 hp5 => ?_⟩
          refine k1 [h] ?_ _ p5 (f2.trans (s3.trans (Same.up hp5))) upd_same
          rw [ed]
          exact if_pos rfl
        · refine k0 ?_ _ (f2.trans s3)
          rw [ed, if_neg (fun z => hc (decide_eq_true (by rw [z]; rfl)))]
      have hm1 : h ∉ w1 := hm1
      have f3 := f2.trans s3
      have hW3 := s3 _ _ hW2
      clear hW2 f2 s3
      have tl : ∀ (n : Nat) (σ : L2.St) (H4 : Hp), σ[1]? = some (some (.ref p)) → Same H3 H4 → dueW (h :: r) = (if (h :: r).length = n then some (h :: r) else none) →
          (if decide (V.int (((h :: r).length : Nat) : Int) = V.int (n : Int)) = true then tCB (fun xs H_1 Q => ∃ p ys, xs = [V.ref p] ∧ ((SqL (Kf w.params) H_1 p ys ∧ ∀ l, H_1 l = none → Q (.ref l) (upd H_1 l (.tup ys))) ∨ (SqT (Kf w.params) H_1 p ys ∧ Q (.ref p) H_1))) (tCons (tVar 1) tNil) σ H4 Q else tC .non σ H4 Q) := by
        intro n σ H4 h1 s4 ed
        refine ite2 (fun hc => ?_) (fun hc => ?_)
        · refine ⟨_, h1, p, _, rfl, .inl ⟨SqL.of (s4 _ _ hW3), fun l hl => ?_⟩⟩
          refine k1 _ ?_ _ l (f3.trans (s4.trans (Same.up hl))) upd_same
          rw [ed, if_pos (by have := V.int.inj (of_decide_eq_true hc); omega)]
        · refine k0 ?_ _ (f3.trans s4)
          rw [ed, if_neg (fun z => hc (decide_eq_true (by rw [z])))]
      refine sq_in (i := 2) rfl (by decide +kernel) (fun hm2 H4 s4 => ?_) (fun hm2 H4 s4 => ?_)
      · have hm2 : h ∈ w2 := hm2
        refine ⟨_, rfl, rfl, _, rfl, ?_⟩
        exact tl 2 _ H4 rfl s4 (by
          show (if h ∈ wT then _ else if h ∈ w1 then _ else if h ∈ w2 then (if (h :: r).length = 2 then some (h :: r) else none) else _) = _
          rw [if_neg hm, if_neg hm1, if_pos hm2])
      have hm2 : h ∉ w2 := hm2
      refine sq_in (i := 2) rfl (by decide +kernel) (fun hm3 H5 s5 => ?_) (fun hm3 H5 s5 => ?_)
      · have hm3 : h ∈ w3 := hm3
        refine ⟨_, rfl, rfl, _, rfl, ?_⟩
        exact tl 3 _ H5 rfl (s4.trans s5) (by
          show (if h ∈ wT then _ else if h ∈ w1 then _ else if h ∈ w2 then _ else if h ∈ w3 then (if (h :: r).length = 3 then some (h :: r) else none) else _) = _
          rw [if_neg hm, if_neg hm1, if_neg hm2, if_pos hm3])
      have hm3 : h ∉ w3 := hm3
      have ed : dueW (h :: r) = if h = w4 then (if (h :: r).length = 4 then some (h :: r) else none) else none := by
        show (if h ∈ wT then _ else if h ∈ w1 then _ else if h ∈ w2 then _ else if h ∈ w3 then _ else if h = w4 then (if (h :: r).length = 4 then some (h :: r) else none) else none) = _
        rw [if_neg hm, if_neg hm1, if_neg hm2, if_neg hm3]
      refine ⟨_, rfl, rfl, _, rfl, ?_⟩
      refine ite2 (fun hc => ?_) (fun hc => ?_)
      · have e4 : h = w4 := V.str.inj (of_decide_eq_true hc)
        rw [if_pos e4] at ed
        refine ⟨_, rfl, rfl, _, rfl, ?_⟩
        exact tl 4 _ H5 rfl (s4.trans s5) ed
      · rw [if_neg (fun z => hc (decide_eq_true (congrArg V.str z)))] at ed
        rw [if_neg Bool.false_ne_true]
        exact k0 ed _ (f3.trans (s4.trans s5))
    · exact ⟨_, rfl, _, _, _, _, false, rfl, .ty _, ht, hk, _, rfl, iteT (iteT q)⟩
end
end K72
end

section
set_option Elab.async false
set_option linter.all false
set_option maxRecDepth 100000
set_option maxHeartbeats 16000000
namespace K72
open PySem PySem.Spec PyProof.Rows L2
def es336 (P : Params) : Array DictEntry := match (o336 P).data with
  | .dict es _ => es
  | _ => #[]
theorem kd_counts (w : World) : KDict (Kf w.params) w 336 (es336 w.params) 18 := ⟨by kernel_rfl, by
  show PySem.W.KeysLit w.params (es336 w.params).toList
  repeat' first | exact True.intro | refine ⟨⟨_, _, rfl, rfl⟩, ?_⟩, by kernel_rfl⟩
abbrev wAll : List Str := w1 ++ w2 ++ w3 ++ [w4]
def keyIn (e : DictEntry) : Bool := match e.key with
  | .str y _ => decide (y ∈ wAll)
  | _ => false
theorem keys_in (P : Params) : (es336 P).toList.all keyIn = true := by kernel_rfl
theorem cnt_none (P : Params) {h : Str} (n : h ∉ wAll) : findBy Value.isStrOf (es336 P) h = none := by
  have a := keys_in P
  generalize es336 P = es at a
  obtain ⟨l⟩ := es
  unfold findBy
  rw [List.find?_toArray, Option.map_eq_none_iff, List.find?_eq_none]
  intro e he q
  obtain ⟨t, et⟩ := Value.isStrOf_shape q
  have z := List.all_eq_true.mp a e he
  unfold keyIn at z
  rw [et] at z
  exact n (of_decide_eq_true z)
theorem cnt_1 (P : Params) {h : Str} (m : h ∈ w1) : ∃ t, findBy Value.isStrOf (es336 P) h = some (.int 1 t) := by
  rcases List.mem_cons.mp m with rfl | m
  · exact ⟨622, by kernel_rfl⟩
  rcases List.mem_cons.mp m with rfl | m
  · exact ⟨625, by kernel_rfl⟩
  rcases List.mem_cons.mp m with rfl | m
  · exact ⟨619, by kernel_rfl⟩
  cases m
theorem cnt_2 (P : Params) {h : Str} (m : h ∈ w2) : ∃ t, findBy Value.isStrOf (es336 P) h = some (.int 2 t) := by
  rcases List.mem_cons.mp m with rfl | m
  · exact ⟨628, by kernel_rfl⟩
  rcases List.mem_cons.mp m with rfl | m
  · exact ⟨631, by kernel_rfl⟩
  rcases List.mem_cons.mp m with rfl | m
  · exact ⟨634, by kernel_rfl⟩
  rcases List.mem_cons.mp m with rfl | m
  · exact ⟨637, by kernel_rfl⟩
  rcases List.mem_cons.mp m with rfl | m
  · exact ⟨640, by kernel_rfl⟩
  rcases List.mem_cons.mp m with rfl | m
  · exact ⟨643, by kernel_rfl⟩
  rcases List.mem_cons.mp m with rfl | m
  · exact ⟨646, by kernel_rfl⟩
  cases m
theorem cnt_3 (P : Params) {h : Str} (m : h ∈ w3) : ∃ t, findBy Value.isStrOf (es336 P) h = some (.int 3 t) := by
  rcases List.mem_cons.mp m with rfl | m
  · exact ⟨649, by kernel_rfl⟩
  rcases List.mem_cons.mp m with rfl | m
  · exact ⟨652, by kernel_rfl⟩
  rcases List.mem_cons.mp m with rfl | m
  · exact ⟨655, by kernel_rfl⟩
  rcases List.mem_cons.mp m with rfl | m
  · exact ⟨658, by kernel_rfl⟩
  rcases List.mem_cons.mp m with rfl | m
  · exact ⟨661, by kernel_rfl⟩
  rcases List.mem_cons.mp m with rfl | m
  · exact ⟨664, by kernel_rfl⟩
  rcases List.mem_cons.mp m with rfl | m
  · exact ⟨667, by kernel_rfl⟩
  cases m
theorem cnt_4 (P : Params) {h : Str} (m : h = w4) : ∃ t, findBy Value.isStrOf (es336 P) h = some (.int 4 t) := by
  subst m
  exact ⟨670, by kernel_rfl⟩
theorem wt_not (h : Str) (m : h ∈ wT) : h ∉ wAll := by
  rcases List.mem_cons.mp m with rfl | m
  · decide +kernel
  rcases List.mem_cons.mp m with rfl | m
  · decide +kernel
  rcases List.mem_cons.mp m with rfl | m
  · decide +kernel
  cases m
theorem sq_words (P : Params) (H : Hp) : SqT (Kf P) H 335 (wT.map V.str) := .inr ⟨o335 P, _, 0, by kernel_rfl, rfl, rfl, (by show 3 ≤ sizeLine; decide), .cons ⟨_, rfl⟩ (.cons ⟨_, rfl⟩ (.cons ⟨_, rfl⟩ .nil))⟩
/-- how many words a first word wants: none for no word that is known -/
def wants (h : Str) : Option Nat := if h ∈ w1 then some 1 else if h ∈ w2 then some 2 else if h ∈ w3 then some 3 else if h = w4 then some 4 else none
theorem rel_wants (P : Params) (h : Str) : ∃ y : V, RelV y ((findBy Value.isStrOf (es336 P) h).getD .none) ∧ y = (match wants h with | some n => V.int (n : Int) | none => V.non) := by
  unfold wants
  by_cases m1 : h ∈ w1
  · obtain ⟨t, e⟩ := cnt_1 P m1
    rw [e, if_pos m1]
    exact ⟨.int 1, ⟨t, rfl⟩, rfl⟩
  rw [if_neg m1]
  by_cases m2 : h ∈ w2
  · obtain ⟨t, e⟩ := cnt_2 P m2
    rw [e, if_pos m2]
    exact ⟨.int 2, ⟨t, rfl⟩, rfl⟩
  rw [if_neg m2]
  by_cases m3 : h ∈ w3
  · obtain ⟨t, e⟩ := cnt_3 P m3
    rw [e, if_pos m3]
    exact ⟨.int 3, ⟨t, rfl⟩, rfl⟩
  rw [if_neg m3]
  by_cases m4 : h = w4
  · obtain ⟨t, e⟩ := cnt_4 P m4
    rw [e, if_pos m4]
    exact ⟨.int 4, ⟨t, rfl⟩, rfl⟩
  rw [if_neg m4, cnt_none P (fun z => by
    rcases List.mem_append.mp z with z | z
    · rcases List.mem_append.mp z with z | z
      · rcases List.mem_append.mp z with z | z
        · exact m1 z
        · exact m2 z
      · exact m3 z
    · exact m4 (List.mem_singleton.mp z))]
  exact ⟨.non, rfl, rfl⟩
theorem wants_wt {h : Str} (m : h ∈ wT) : wants h = none := by
  rcases List.mem_cons.mp m with rfl | m
  · decide +kernel
  rcases List.mem_cons.mp m with rfl | m
  · decide +kernel
  rcases List.mem_cons.mp m with rfl | m
  · decide +kernel
  cases m
theorem dueW_wants (h : Str) (r : List Str) (n : ¬ (h ∈ wT ∧ 2 < (h :: r).length)) : dueW (h :: r) = if wants h = some (h :: r).length then some (h :: r) else none := by
  rw [dueW_cons]
  by_cases m0 : h ∈ wT
  · rw [if_pos m0, if_neg (fun z => n ⟨m0, z⟩), wants_wt m0]
    rfl
  rw [if_neg m0]
  unfold wants
  by_cases m1 : h ∈ w1
  · rw [if_pos m1, if_pos m1]
    simp only [Option.some.injEq, eq_comm]
  rw [if_neg m1, if_neg m1]
  by_cases m2 : h ∈ w2
  · rw [if_pos m2, if_pos m2]
    simp only [Option.some.injEq, eq_comm]
  rw [if_neg m2, if_neg m2]
  by_cases m3 : h ∈ w3
  · rw [if_pos m3, if_pos m3]
    simp only [Option.some.injEq, eq_comm]
  rw [if_neg m3, if_neg m3]
  by_cases m4 : h = w4
  · rw [if_pos m4, if_pos m4]
    simp only [Option.some.injEq, eq_comm]
  rw [if_neg m4, if_neg m4]
  rfl
def spCw (K : PySem.W.Frag) : Sp := fun vs H Q E => (∃ z, vs = [.str z] ∧ Okz 1000 z ∧ (dueZ z = none → ∀ H', Same H H' → E (.ref 332) none H') ∧ ∀ ys, dueZ z = some ys → ∀ H' p, Same H H' → H' p = some (.tup (ys.map V.str)) → Q (.ref p) H') ∨
  ∃ v, vs = [v] ∧ NoStr K H v ∧ E (.ref 332) none H
section
variable {w : World} {mg : Str → Option Value} {base : Heap}
theorem ok_cw (M : Mg mg) : FnOk prog w (Kf w.params) mg base (L2.CX prog w) 1 344 fd_command_words ["thing"] (spCw (Kf w.params)) := by
  refine (F_command_words w.params).okX (sc_command_words) (fun vs H Q E h => ?_) (fun cdv A outer s H vs Q E hr h => ?_)
  · rcases h with ⟨z, rfl, _⟩ | ⟨v, rfl, _⟩ <;> rfl
  · have nd := sc_command_words.nd
    refine ⟨_, (pss_cons (ps_if (PW.pt (pw_or (pt_not (pt_val (pe_callB call_isi (by rfl) M.m_isinstance (by decide +kernel) (pa_cons (pv 0) (pa_cons (pe_bltn (v := .ty "str") (by rfl) M.m_str (by decide +kernel) rfl) pa_nil))))) (pw_or1 (pt_cmpR op_in_str (pe_glob (v := .str nl) (by rfl) M.m_BREAK_commands ⟨_, rfl⟩) (pv 0) (by rfl))))) (pss_one (ps_raise rfl (takes_of rfl rfl rfl rfl) (pmk_none PySem.F.excBase_Exception (exc_IC w.params) M.m_InvalidCommand (kp_IC w.params) (raises_own (sub_IC w.params) (ty_IC w.params)) (by exact rfl)))) pss_nil)
      (pss_cons (ps_set (i := 1) nd rfl (Or.inl rfl) (pe_split (pv 0) (pe_glob (v := .str sp) (by rfl) M.m_BLANK_commands ⟨_, rfl⟩)))
      (pss_cons (ps_if (pt_cmpR op_in_seq pe_str (pv 1) (by rfl)) (pss_one (ps_raise rfl (takes_of rfl rfl rfl rfl) (pmk_none PySem.F.excBase_Exception (exc_IC w.params) M.m_InvalidCommand (kp_IC w.params) (raises_own (sub_IC w.params) (ty_IC w.params)) (by exact rfl)))) pss_nil)
      (pss_cons (ps_if (PW.pt (pw_and (pt_cmpR op_in_seq (pe_ix ix_list (pv 1) pe_int (fun _ _ => rfl)) (pe_glob (v := .ref 335) (by rfl) M.m_TEXT_WORDS rfl) (by rfl)) (pw_and1 (pt_cmpR op_ge (pe_callB call_len_seq (by rfl) M.m_len PySem.boot_len (pa_cons (pv 1) pa_nil)) (pe_glob (v := .int 3) (by rfl) M.m_LEAST_TEXT_WORDS ⟨_, rfl⟩) (nomark _))))) (pss_one (ps_ret (pe_tup (StX.pa_star (pe_slice sl_list (pv 1) po_none (po_some pe_int)) (pa_cons (pe_replN (pe_join (pe_glob (v := .str sp) (by rfl) M.m_BLANK_commands ⟨_, rfl⟩) (pe_slice sl_list (pv 1) (po_some pe_int) po_none)) (by rfl) M.m_SEMICOLON (by rfl) M.m_BREAK_commands) pa_nil))))) pss_nil)
      (pss_cons (ps_if (pt_cmpR op_ne (pe_kget (kd_counts w) (by rfl) M.m_WORD_COUNTS (pe_ix ix_list (pv 1) pe_int (fun _ _ => rfl)) ⟨rfl, rfl, rfl, rfl⟩) (pe_callB call_len_seq (by rfl) M.m_len PySem.boot_len (pa_cons (pv 1) pa_nil)) (nomark _)) (pss_one (ps_raise rfl (takes_of rfl rfl rfl rfl) (pmk_none PySem.F.excBase_Exception (exc_IC w.params) M.m_InvalidCommand (kp_IC w.params) (raises_own (sub_IC w.params) (ty_IC w.params)) (by exact rfl)))) pss_nil)
      (pss_one (ps_ret (pe_callTy call_tuple_of (by rfl) M.m_tuple boot_tuple (pa_cons (pv 1) pa_nil))))))))), ?_⟩
    rcases h with ⟨z, rfl, hz, k0, k1⟩ | ⟨v, rfl, ⟨t, ht, hk⟩, q⟩
    · refine ⟨_, rfl, _, _, _, _, true, rfl, .ty _, isi_str w.params, kit_str w.params, _, rfl, iteF ⟨_, rfl, _, _, rfl, rfl, _, rfl, ?_⟩⟩
      change ite (hasNl z = true) _ _
      refine ite2 (fun hb => ?_) (fun hb => ?_)
      · exact k0 (by unfold dueZ; rw [if_pos hb]) _ (Same.refl _)
      have hzl := hz.len
      refine ⟨_, rfl, ⟨_, rfl⟩, z, sp, rfl, rfl, by decide +kernel, line_len (by omega), fun p hp => ?_⟩
      dsimp only [gName]
      have oW := Okl.split hz
      have nW := split_ne z sp
      have ez : dueZ z = if e0 ∈ Txt.split z sp then none else dueW (Txt.split z sp) := by unfold dueZ; rw [if_neg hb]
      rw [ez] at k0 k1
      generalize Txt.split z sp = ws at oW nW k0 k1 ⊢
      have mW := oW.mu
      have lW := mu_len ws
      have f0 : Same H (upd H p (.lst (ws.map V.str))) := Same.up hp
      have hW : upd H p (.lst (ws.map V.str)) p = some (.lst (ws.map V.str)) := upd_same
      generalize upd H p (.lst (ws.map V.str)) = H1 at f0 hW ⊢
      refine ⟨_, rfl, p, _, rfl, .inl (SqL.of hW), rfl, flat_strs _, _, rfl, ?_⟩
      rw [if_neg Bool.false_ne_true, inV_strs]
      refine ite2 (fun hb => ?_) (fun hb => ?_)
      · exact k0 (by rw [if_pos (of_decide_eq_true hb)]) _ f0
      rw [if_neg (fun z => hb (decide_eq_true z))] at k0 k1
      obtain ⟨h, r, rfl⟩ : ∃ a r, ws = a :: r := by
        cases ws with
        | nil => exact absurd rfl nW
        | cons a r => exact ⟨a, r, rfl⟩
      refine ⟨_, rfl, p, _, 0, .str h, rfl, rfl, SqL.of hW, atI_nat (j := 0) rfl, 335, _, rfl, .inr (sq_words w.params H1), rfl, flat_strs _, _, rfl, ?_⟩
      rw [inV_strs]
      refine ite2 (fun hc => ?_) (fun hc => ?_)
      · have hm : h ∈ wT := of_decide_eq_true hc
        refine ⟨_, rfl, p, _, rfl, .inl (SqL.of hW), _, _, rfl, rfl, _, rfl, ?_⟩
        rw [List.length_map]
        refine ite2 (fun hd => ?_) (fun hd => ?_)
        · have hl' : (3 : Int) ≤ (((h :: r).length : Nat) : Int) := of_decide_eq_true hd
          have hl : 2 < (h :: r).length := by omega
          obtain ⟨b, r2, rfl⟩ : ∃ b r2, r = b :: r2 := by
            cases r with
            | nil => exact absurd hl (by show ¬ 2 < 1; decide)
            | cons b r2 => exact ⟨b, r2, rfl⟩
          refine ⟨_, rfl, 2, rfl, ?_⟩
          dsimp only [tNoPart]
          refine sl_take 2 hW fun p2 hp2 => ?_
          refine ⟨p2, _, rfl, .inr (SqL.of upd_same), ?_⟩
          have hW2 := (Same.up (o := .lst (((h :: b :: r2).take 2).map V.str)) hp2) _ _ hW
          refine ⟨⟨_, rfl⟩, _, rfl, 2, rfl, ?_⟩
          dsimp only [tNoPart]
          refine sl_drop 2 hW2 fun p3 hp3 => ?_
          have o3 := oW.sub (List.drop_sublist 2 (h :: b :: r2))
          have o4 := o3.join
          have l4 := o4.len
          have bnd : (Txt.join sp ((h :: b :: r2).drop 2)).length + ((Txt.join sp ((h :: b :: r2).drop 2)).length + 1) * nl.length ≤ 16777216 := by
            have e1 : nl.length = 1 := by decide +kernel
            rw [e1]
            omega
          refine ⟨_, p3, _, rfl, rfl, .inl (SqL.of upd_same), o3.jfit (by omega), _, rfl, bnd, (by show 3 ≤ sizeLine; decide), fun p5 hp5 => ?_⟩
          refine k1 [h, b, textOf (h :: b :: r2)] ?_ _ p5 (f0.trans (((Same.up hp2).trans (Same.up hp3)).trans (Same.up hp5))) upd_same
          rw [dueW_cons, if_pos hm, if_pos hl]
          rfl
        · have ed := dueW_wants h r (fun z => hd (decide_eq_true (by show (3 : Int) ≤ (((h :: r).length : Nat) : Int); omega)))
          obtain ⟨y, ry, ey⟩ := rel_wants w.params h
          refine ⟨_, rfl, p, _, 0, .str h, rfl, rfl, SqL.of hW, atI_nat (j := 0) rfl, h, rfl, y, ry, _, rfl, p, _, rfl, .inl (SqL.of hW), (by rw [ey]; cases wants h <;> rfl), _, rfl, ?_⟩
          rw [List.length_map]
          by_cases ew : wants h = some (h :: r).length
          · have ey2 : y = V.int (((h :: r).length : Nat) : Int) := by rw [ey, ew]
            rw [decide_eq_true ey2]
            rw [if_pos ew] at ed
            refine iteF ?_
            exact ⟨_, rfl, p, _, rfl, .inl ⟨SqL.of hW, fun l hl => k1 _ ed _ l (f0.trans (Same.up hl)) upd_same⟩⟩
          · have ey2 : y ≠ V.int (((h :: r).length : Nat) : Int) := by
              rw [ey]
              cases e : wants h with
              | none => exact fun z => by cases z
              | some n =>
                intro z
                have z' := V.int.inj z
                exact ew (by rw [e]; congr 1; omega)
            rw [decide_eq_false ey2]
            rw [if_neg ew] at ed
            refine iteT ?_
            exact k0 ed _ f0
      · refine iteF ?_
        have ed := dueW_wants h r (fun z => hc (decide_eq_true z.1))
        obtain ⟨y, ry, ey⟩ := rel_wants w.params h
        refine ⟨_, rfl, p, _, 0, .str h, rfl, rfl, SqL.of hW, atI_nat (j := 0) rfl, h, rfl, y, ry, _, rfl, p, _, rfl, .inl (SqL.of hW), (by rw [ey]; cases wants h <;> rfl), _, rfl, ?_⟩
        rw [List.length_map]
        by_cases ew : wants h = some (h :: r).length
        · have ey2 : y = V.int (((h :: r).length : Nat) : Int) := by rw [ey, ew]
          rw [decide_eq_true ey2]
          rw [if_pos ew] at ed
          refine iteF ?_
          exact ⟨_, rfl, p, _, rfl, .inl ⟨SqL.of hW, fun l hl => k1 _ ed _ l (f0.trans (Same.up hl)) upd_same⟩⟩
        · have ey2 : y ≠ V.int (((h :: r).length : Nat) : Int) := by
            rw [ey]
            cases e : wants h with
            | none => exact fun z => by cases z
            | some n =>
              intro z
              have z' := V.int.inj z
              exact ew (by rw [e]; congr 1; omega)
          rw [decide_eq_false ey2]
          rw [if_neg ew] at ed
          refine iteT ?_
          exact k0 ed _ f0
    · exact ⟨_, rfl, _, _, _, _, false, rfl, .ty _, ht, hk, _, rfl, iteT (iteT q)⟩
end
end K72
end

section
set_option Elab.async false
set_option linter.all false
set_option maxRecDepth 100000
set_option maxHeartbeats 16000000
namespace K72
open PySem PySem.Spec PyProof.Rows L2
/-- o.m(e, ..) within a try -/
def tMeth1 (C : Addr) (m : Str) (sp : Sp) (E : L2.St → XK) (ta : TE) (t : TA) : TE := fun σ H Q => ta σ H fun x H1 => ∃ a dx fs, x = .ref a ∧ H1 a = some (.ins C dx fs) ∧ fs.lookup m = none ∧ t σ H1 fun vs H2 => sp (x :: vs) H2 Q (E σ)
theorem pe_meth1 {X : Cx} {CX : CXT} {k : Nat} {f C : Addr} {fd : FuncData} {ps : List Str} {sp : Sp} {E : L2.St → XK} {m : Str} {pos apos : Pos} {e o : Expr} {es : List Expr} {ta : TE} {t : TA} {pl : Sem Bool} (he : PE X o ta) (c : Cls X.K C) (hm : Meth X.K C m f)
    (F : FnOk X.prog X.w X.K X.mg X.base CX k f fd ps sp) (hr : Room k X.A) (hb : Binds X.K fd ps []) (hx : ∀ σ, PassesAt CX X σ (E σ)) (ha : PA X (e :: es) t)
    (ht : eval (.Call (.Attribute o m apos) (e :: es) [] pos) X.env = (do
      let ov ← eval o X.env
      standAt apos.atName
      let (f, first) ← holding [ov] (getMethod ov m pl)
      callWith pos f first (backTo pos (starEach (e :: es) X.env)) (backToKw pos (keywordEach [] X.env))))
    (hst : starEach (e :: es) X.env = (false, eval e X.env) :: starEach es X.env := by rfl) (hpl : (backTo pos (starEach es X.env)).any (·.1) = false := by rfl) :
    PE X (.Call (.Attribute o m apos) (e :: es) [] pos) (tMeth1 C m sp E ta t) := by
  refine ⟨fun pins s σ H Q I h => ?_⟩
  refine PySem.W.methodCall_KW (pl := pl) (thn (he.run pins s σ H _ I h) fun u s1 ⟨x, H1, I1, rx, a, dx, fs, ex, ea, l, q⟩ => ?_) ht
  subst ex
  obtain rfl : u = Value.ref a := rx
  refine getmeth_ok I1 ea c hm l ?_
  refine PySem.W.callWith_K (first := [.ref a]) (h₀ := X.base) I.ok.mod.kin hm.kp (thn (ha.run pos pins s1 σ H1 _ I1 q) fun us s2 ⟨vs, H2, I2, r, q2⟩ => ⟨I2.kIn, ?_⟩) hst hpl
  exact run_fnS (us := .ref a :: us) (vs := .ref a :: vs) F hr hb (hx σ) I2 (.cons rfl r) q2
/-- statements that are never reached -/
theorem pss_no {X : Cx} {ss : List Stmt} : PSs X ss (fun _ _ _ => False) := ⟨fun _ _ _ _ _ _ h => h.elim⟩
theorem pss_of {X : Cx} {ss : List Stmt} {c : Prop} {t : TS} (h : c → PSs X ss t) : PSs X ss (fun D σ H => c ∧ t D σ H) := ⟨fun pins s σ H D I q => (h q.1).run pins s σ H D I q.2⟩
def spOff : Sp := fun vs H Q _ => ∃ (x dx : Addr), vs = [.ref x] ∧ H x = some (.ins 1567 dx []) ∧ ∀ H', (∀ b o, H b = some o → b ≠ x → H' b = some o) → Q .non H'
def spCon : Sp := fun vs H Q _ => ∃ (x dx : Addr), vs = [.ref x] ∧ H x = some (.ins 1784 dx []) ∧ ∀ H' (y : V), (∀ b o, H b = some o → b ≠ x → H' b = some o) → H' x = some (.ins 1784 dx [("office_kept", y)]) → Q .non H'
def spSay (K : PySem.W.Frag) : Sp := fun vs H Q E => ∃ (x : Addr) (v : V), vs = [.ref x, v] ∧ ((∃ z, v = .str z ∧ Okz 1000 z ∧ dueZ z = none) ∨ NoStr K H v) ∧ ∀ H', Same H H' → E (.ref 332) none H'
section
variable {w : World} {mg : Str → Option Value} {base : Heap}
theorem ok_off (M : Mg mg) : FnOk prog w (Kf w.params) mg base CX0 1 1449 fd_Office___init__ ["self"] spOff := by
  refine (F_Office___init__ w.params).ok (sc_Office___init__) (fun vs H Q E h => ?_) (fun cdv A outer s H vs Q E hr h => ?_)
  · obtain ⟨x, dx, rfl, _⟩ := h
    rfl
  · obtain ⟨x, dx, rfl, hx, k⟩ := h
    refine ⟨_, pss_cons (ps_fld (pv 0) pe_dnewK rfl) (pss_cons (ps_fld (pv 0) (pe_lst pa_nil) rfl) (pss_one (ps_fld (pv 0) (pe_lst pa_nil) rfl))), ?_⟩
    intro p1 h1
    have n1 : x ≠ p1 := ne_of_none hx h1
    refine ⟨_, rfl, x, _, dx, _, rfl, (by rw [upd_ne n1]; exact hx), cls_Office w.params, no_open_now w.params, (by show 0 < 1000; decide), ?_⟩
    refine ⟨(by show 0 ≤ sizeLine; decide), fun p2 h2 => ?_⟩
    have n2 : x ≠ p2 := ne_of_none upd_same h2
    refine ⟨_, rfl, x, _, dx, _, rfl, (by rw [upd_ne n2]; exact upd_same), cls_Office w.params, no_past w.params, (by show 1 < 1000; decide), ?_⟩
    refine ⟨(by show 0 ≤ sizeLine; decide), fun p3 h3 => ?_⟩
    have n3 : x ≠ p3 := ne_of_none upd_same h3
    refine ⟨_, rfl, x, _, dx, _, rfl, (by rw [upd_ne n3]; exact upd_same), cls_Office w.params, no_ahead w.params, (by show 2 < 1000; decide), ?_⟩
    refine k _ fun b o e hb => ?_
    have e1 := (Same.up (o := .dK []) h1) b o e
    have e2 : upd (upd H p1 (.dK [])) x (.ins 1567 dx (putF "open_now" (.ref p1) [])) b = some o := by rw [upd_ne hb]; exact e1
    have e3 := (Same.up (o := .lst []) h2) b o e2
    have e4 : upd (upd (upd (upd H p1 (.dK [])) x (.ins 1567 dx (putF "open_now" (.ref p1) []))) p2 (.lst [])) x (.ins 1567 dx (putF "past" (.ref p2) (putF "open_now" (.ref p1) []))) b = some o := by rw [upd_ne hb]; exact e3
    have e5 := (Same.up (o := .lst []) h3) b o e4
    rw [upd_ne hb]
    exact e5
theorem ok_con (M : Mg mg) : FnOk prog w (Kf w.params) mg base CX0 3 1766 fd_Console___init__ ["self"] spCon := by
  have GO : FnOk prog w (Kf w.params) mg base CX0 1 1449 fd_Office___init__ ["self"] spOff := ok_off M
  refine (F_Console___init__ w.params).ok (sc_Console___init__) (fun vs H Q E h => ?_) (fun cdv A outer s H vs Q E hr h => ?_)
  · obtain ⟨x, dx, rfl, _⟩ := h
    rfl
  · obtain ⟨x, dx, rfl, hx, k⟩ := h
    refine ⟨_, pss_one (ps_fld (pv 0) (pe_make0 (mk_Office w.params) GO hr (by rfl) M.m_Office (b_Office___init__ w.params) .nil pass0) rfl), ?_⟩
    intro y dy hy hdy ne
    refine ⟨y, dy, rfl, upd_same, fun H' fr => ⟨rfl, ?_⟩⟩
    have kp : ∀ b o, H b = some o → H' b = some o := fun b o e => by
      have b1 : b ≠ dy := ne_of_none e hdy
      have b2 : b ≠ y := ne_of_none e hy
      exact fr b o (by rw [upd_ne b2, upd_ne b1]; exact e) b2
    refine ⟨_, rfl, x, _, dx, _, rfl, kp _ _ hx, cls_Console w.params, no_office_kept w.params, (by show 0 < 1000; decide), ?_⟩
    exact k _ (.ref y) (fun b o e hb => by rw [upd_ne hb]; exact kp b o e) upd_same
theorem ok_say (M : Mg mg) : FnOk prog w (Kf w.params) mg base (L2.CX prog w) 2 1781 fd_Console_say ["self", "command"] (spSay (Kf w.params)) := by
  have GC : FnOk prog w (Kf w.params) mg base (L2.CX prog w) 1 344 fd_command_words ["thing"] (spCw (Kf w.params)) := ok_cw M
  refine (F_Console_say w.params).okX (sc_Console_say) (fun vs H Q E h => ?_) (fun cdv A outer s H vs Q E hr h => ?_)
  · obtain ⟨x, v, rfl, _⟩ := h
    rfl
  · obtain ⟨x, v, rfl, hv, k⟩ := h
    have nd := sc_Console_say.nd
    refine ⟨_, pss_cons (ps_set (i := 2) nd rfl (Or.inl rfl) (pe_callS (E := WE fun cls d _ H => E cls d H) GC hr (by rfl) M.m_command_words (F_command_words w.params).kp (b_command_words w.params) (fun σ => passAt (takes_of rfl rfl rfl rfl) σ) (pa_cons (pv 1) pa_nil))) pss_no, ?_⟩
    refine ⟨_, rfl, ?_⟩
    rcases hv with ⟨z, rfl, hz, ez⟩ | hn
    · exact .inl ⟨z, rfl, hz, fun _ H' s' => k H' s', fun ys ey => by rw [ez] at ey; cases ey⟩
    · exact .inr ⟨v, rfl, hn, k _ (Same.refl _)⟩
end
end K72
end

section
set_option Elab.async false
set_option linter.all false
set_option maxRecDepth 100000
set_option maxHeartbeats 16000000
namespace K72
open PySem PySem.Spec PyProof.Rows L2
/-- what a value comes to -/
def Out (K : PySem.W.Frag) (H : Hp) (v : V) (o : Option (List Str)) : Prop := (∃ z, v = .str z ∧ Okz 1000 z ∧ dueZ z = o) ∨ (NoStr K H v ∧ o = none)
abbrev noneL : List V := [.str (Str.ofString "none"), .bl true]
def spHeard (K : PySem.W.Frag) : Sp := fun vs H Q _ => ∃ (v : V) (b : Bool) (o : Option (List Str)), vs = [v, .bl b] ∧ Out K H v o ∧
  (∀ ys, o = some ys → ∀ H' p, Same H H' → H' p = some (.tup (ys.map V.str)) → Q (.ref p) H') ∧ (o = none → ∀ H' p, Same H H' → H' p = some (.lst noneL) → Q (.ref p) H')
def spSaid (K : PySem.W.Frag) : Sp := fun vs H Q _ => ∃ v : V, vs = [v] ∧ Out K H v none ∧ ∀ H', Same H H' → Q (.str (Str.ofString "none")) H'
theorem NoStr.same {K : PySem.W.Frag} {H H' : Hp} {v : V} (h : NoStr K H v) (e : Same H H') : NoStr K H' v := by
  obtain ⟨t, ht, hk⟩ := h
  refine ⟨t, ?_, hk⟩
  cases ht with
  | base b =>
    refine .base ?_
    cases b with
    | non => exact .non
    | bl x => exact .bl x
    | int i => exact .int i
    | str x => exact .str x
    | flt x => exact .flt x
    | lst h => exact .lst (e _ _ h)
    | frz h => exact .frz (e _ _ h)
    | tup h => exact .tup (e _ _ h)
    | dK h => exact .dK (e _ _ h)
    | dT h => exact .dT (e _ _ h)
    | ins h cl ha hn htk hm => exact .ins (e _ _ h) cl ha hn htk hm
  | byt b => exact .byt b
  | set h => exact .set (e _ _ h)
  | kList h c => exact .kList h c
  | kTuple h c => exact .kTuple h c
  | kDict h c => exact .kDict h c
  | fTuple h => exact .fTuple (e _ _ h)
  | fDict h => exact .fDict (e _ _ h)
theorem excc (P : Params) : ExcC (Kf P) 332 := ⟨by kernel_rfl, by kernel_rfl, by kernel_rfl, by kernel_rfl, by kernel_rfl, by kernel_rfl, by kernel_rfl, by kernel_rfl⟩
theorem kb_words (P : Params) : KBinds (Kf P) fd_command_words ["thing"] ["thing"] (fun us ws => us ++ us ++ ws) (fun us ws => us ++ us ++ ws) where
  to := fun s us ws _ hl => by
    cases us with
    | nil =>
      obtain ⟨u, rfl⟩ : ∃ u, ws = [u] := List.length_eq_one_iff.mp (by simpa using hl)
      exact .of_eq rfl
    | cons a r =>
      exfalso
      rw [List.length_append, List.length_append, List.length_cons] at hl
      change _ = 1 at hl
      omega
  rel := fun r rz => (r.append r).append rz
theorem Out.cw {K : PySem.W.Frag} {H : Hp} {v : V} {o : Option (List Str)} (h : Out K H v o) {Q : VK} {E : XK} (k1 : ∀ ys, o = some ys → ∀ H' p, Same H H' → H' p = some (.tup (ys.map V.str)) → Q (.ref p) H') (k0 : o = none → ∀ H', Same H H' → E (.ref 332) none H') : spCw K [v] H Q E := by
  rcases h with ⟨z, rfl, hz, ez⟩ | ⟨hn, rfl⟩
  · exact .inl ⟨z, rfl, hz, fun e => k0 (by rw [← ez]; exact e), fun ys e => k1 ys (by rw [← ez]; exact e)⟩
  · exact .inr ⟨v, rfl, hn, k0 rfl _ (Same.refl _)⟩
section
variable {w : World} {mg : Str → Option Value} {base : Heap}
theorem ok_heard (M : Mg mg) : FnOk prog w (Kf w.params) mg base CX0 2 1851 fd__law_heard ["it", "is_named"] (spHeard (Kf w.params)) := by
  have GC : FnOk prog w (Kf w.params) mg base (L2.CX prog w) 1 344 fd_command_words ["thing"] (spCw (Kf w.params)) := ok_cw M
  refine (F__law_heard w.params).ok (sc__law_heard) (fun vs H Q E h => ?_) (fun cdv A outer s H vs Q E hr h => ?_)
  · obtain ⟨v, b, o, rfl, _⟩ := h
    rfl
  · obtain ⟨v, b, o, rfl, ho, k1, k0⟩ := h
    have nd := sc__law_heard.nd
    refine ⟨_, pss_cons (ps_set (i := 2) nd rfl (Or.inl rfl) pe_non)
      (pss_cons (ps_try_as (i := 3)
          (tb := fun W => tAsg (tIf (tB (tVar 1)) (fun σ H Q => tCons (tVar 0) tNil σ H fun zs H2 => spCw (Kf w.params) ([] ++ [] ++ zs) H2 Q (WE W σ)) (tCallS (spCw (Kf w.params)) (WE W) (tCons (tVar 0) tNil))) (gName 2))
          (ts := fun a cls d D σ H => (cls = Value.ref 332 ∧ d = none) ∧ tAsg (tLst (tCons (tC (.str (Str.ofString "none"))) (tCons (tCB (rIsE (Kf w.params) 332 a) (tCons (tVar 3) (tCons (tC (.ref 31)) tNil))) tNil))) (gName 2) D σ H)
          (Wout := fun _ _ _ _ => False) rfl rfl nd rfl rfl ⟨rfl, by decide, Or.inl M.m_InvalidCommand⟩ takes0
          (fun W pn xe tk _ => pss_one (ps_set (i := 2) nd rfl (Or.inl rfl) (pe_ifExp (pt_val (pv 1))
            (pe_callK0S GC hr (by rfl) M.m_command_words (F_command_words w.params).kp (kb_words w.params) (fun σ => passAt tk σ) (pk_cons (pv 0) pk_nil))
            (pe_callS GC hr (by rfl) M.m_command_words (F_command_words w.params).kp (b_command_words w.params) (fun σ => passAt tk σ) (pa_cons (pv 0) pa_nil)))))
          (fun a oe cls d pn hz hf => pss_of fun hc => by
            obtain ⟨rfl, rfl⟩ := hc
            exact pss_one (ps_set (i := 2) nd rfl (Or.inl rfl) (pe_lst (pa_cons pe_str (pa_cons (pe_callB (call_isE (excc w.params) hz hf) (by rfl) M.m_isinstance (by decide +kernel) (pa_cons (pv 3) (pa_cons (pe_glob (v := .ref 31) (by rfl) M.m_WardError rfl) pa_nil))) pa_nil))))))
        (pss_one (ps_ret (pv 2)))), ?_⟩
    dsimp only [gName]
    cases b with
    | true =>
      refine ⟨_, rfl, _, rfl, iteT ⟨_, rfl, ?_⟩⟩
      dsimp only [tNil, List.nil_append]
      refine ho.cw (fun ys e H' p s' hp => ⟨_, rfl, k1 ys e H' p s' hp⟩) fun e H' s' => ⟨true, exm_ICIC w.params, fun _ a ha => ⟨⟨rfl, rfl⟩, ?_⟩, fun z => nomatch z⟩
      refine ⟨_, rfl, .ref 31, .ref 31, true, rfl, (fun u r => r), kit_ICWE w.params, (by show 2 ≤ sizeLine; decide), fun p hp => ⟨_, rfl, k0 e _ p (s'.trans (Same.up hp)) upd_same⟩⟩
    | false =>
      refine ⟨_, rfl, _, rfl, iteF ⟨_, rfl, ?_⟩⟩
      dsimp only [tNil, List.nil_append]
      refine ho.cw (fun ys e H' p s' hp => ⟨_, rfl, k1 ys e H' p s' hp⟩) fun e H' s' => ⟨true, exm_ICIC w.params, fun _ a ha => ⟨⟨rfl, rfl⟩, ?_⟩, fun z => nomatch z⟩
      refine ⟨_, rfl, .ref 31, .ref 31, true, rfl, (fun u r => r), kit_ICWE w.params, (by show 2 ≤ sizeLine; decide), fun p hp => ⟨_, rfl, k0 e _ p (s'.trans (Same.up hp)) upd_same⟩⟩
theorem ok_said (M : Mg mg) : FnOk prog w (Kf w.params) mg base CX0 5 1858 fd__law_said ["it"] (spSaid (Kf w.params)) := by
  have GN : FnOk prog w (Kf w.params) mg base CX0 3 1766 fd_Console___init__ ["self"] spCon := ok_con M
  have GS : FnOk prog w (Kf w.params) mg base (L2.CX prog w) 2 1781 fd_Console_say ["self", "command"] (spSay (Kf w.params)) := ok_say M
  refine (F__law_said w.params).ok (sc__law_said) (fun vs H Q E h => ?_) (fun cdv A outer s H vs Q E hr h => ?_)
  · obtain ⟨v, rfl, _⟩ := h
    rfl
  · obtain ⟨v, rfl, ho, k⟩ := h
    have nd := sc__law_said.nd
    have hr2 : Room 2 _ := hr.mono (by decide)
    refine ⟨_, pss_cons (ps_set (i := 1) nd rfl (Or.inl rfl) pe_str)
      (pss_cons (ps_try_many
          (tb := fun W => tDrop (tMeth1 1784 "say" (spSay (Kf w.params)) (WE W) (tMake 1784 spCon [] E0 tNil) (tCons (tVar 0) tNil)))
          (l := [(Value.ref 332, fun _ _ _ => tAsg (tC (.str (Str.ofString "none"))) (gName 1)), (Value.ref 31, fun _ _ _ => tAsg (tC (.str (Str.ofString "other"))) (gName 1))])
          (Wout := fun _ _ _ _ => False) rfl rfl takes0
          (fun W pn xe tk _ => pss_one (ps_expr (pe_meth1 (pe_make0 (mk_Console w.params) GN hr (by rfl) M.m_Console (b_Console___init__ w.params) .nil pass0) (cls_Console w.params) (me_say w.params) GS hr2 (b_Console_say w.params) (fun σ => passAt tk σ) (pa_cons (pv 0) pa_nil)
            (mcall_of (abase_call (by rfl)) (fun _ => rfl)))))
          (.cons ⟨rfl, by decide, Or.inl M.m_InvalidCommand⟩ (fun _ _ _ _ _ _ _ => pss_one (ps_set (i := 1) nd rfl (Or.inl rfl) pe_str))
            (.cons ⟨rfl, by decide, Or.inl M.m_WardError⟩ (fun _ _ _ _ _ _ _ => pss_one (ps_set (i := 1) nd rfl (Or.inl rfl) pe_str)) .nil)))
        (pss_one (ps_ret (pv 1)))), ?_⟩
    intro x dx hx hdx ne
    refine ⟨x, dx, rfl, upd_same, fun H1 y fr hx1 => ⟨rfl, ?_⟩⟩
    have kp : Same H H1 := fun b o e => by
      have b1 : b ≠ dx := ne_of_none e hdx
      have b2 : b ≠ x := ne_of_none e hx
      exact fr b o (by rw [upd_ne b2, upd_ne b1]; exact e) b2
    refine ⟨x, dx, _, rfl, hx1, (by simp only [List.lookup, show ((Str.ofString "say") == Str.ofString "office_kept") = false by decide +kernel]), _, rfl, x, v, rfl, ?_, fun H2 s2 => ?_⟩
    · rcases ho with ⟨z, rfl, hz, ez⟩ | ⟨hn, _⟩
      · exact .inl ⟨z, rfl, hz, ez⟩
      · exact .inr (hn.same kp)
    · refine ⟨true, exm_ICIC w.params, fun _ a ha => ?_, fun z => nomatch z⟩
      exact ⟨_, rfl, k _ (kp.trans s2)⟩
end
end K72
end

section
set_option Elab.async false
set_option linter.all false
set_option maxRecDepth 100000
set_option maxHeartbeats 4000000
/-! defs that call repr on a list or a tuple: a promise where no guard is up -/
namespace K72
open PySem PySem.Spec PyProof.Rows L2
/-- as FnOk, where no repr is under way -/
structure FnG (P : Program) (w : World) (K : PySem.W.Frag) (mg : Str → Option Value) (base : Heap) (CX : CXT) (k : Nat) (f : Addr) (fd : FuncData) (ps : List Str) (sp : Sp) : Prop where
  len : ∀ vs H Q E, sp vs H Q E → vs.length = ps.length
  run : ∀ (A : Around) (outer : List Env) (s : Shared) (H : Hp) (args : Args) (us : List Value) (vs : List V) (Q : VK) (E : XK), A.guards = some [] → Room k A → Env0 P w K mg base A outer s H → BindsTo s fd args (ps.zip us) → Vals vs us → sp vs H Q E →
    codeAny (model P w) A (.call (.ref f) args) (CR CX outer P w H s Q E) s
section
variable {P : Program} {w : World} {K : PySem.W.Frag} {mg : Str → Option Value} {base : Heap}
/-- a def's body keeps such a promise -/
theorem Fun.okG {x qual : Str} {st : Stmt} {f : Addr} {fd : FuncData} {N ps : List Str} {k : Nat} {sp : Sp} (F : Fun K x qual st f fd) (S : FnScope N ps (defScope st)) (len : ∀ vs H Q E, sp vs H Q E → vs.length = ps.length)
    (hbody : ∀ (cdv : Value) (A : Around) (outer : List Env) (s : Shared) (H : Hp) (vs : List V) (Q : VK) (E : XK), (A.deeper (envOfC qual (defScope st) s.heap.objs.size f cdv)).guards = some [] → Room k (A.deeper (envOfC qual (defScope st) s.heap.objs.size f cdv)) → sp vs H Q E →
      ∃ t, PSs (cxOf CX0 P w K mg base N qual (defScope st) f cdv A outer s H E).nox (defBody st) t ∧ t { nx := fun _ H' => Q .non H', rt := Q } (start N vs) H) : FnG P w K mg base CX0 (k + 1) f fd ps sp := by
  obtain ⟨oc, od, kV, doc, pm, an, cdv, ct, osl, rfl, lk, hcd⟩ := F.ex
  refine ⟨len, fun A outer s H args us vs Q E hg hr e0 hb r hsp => ?_⟩
  have KX : K.In s.heap := e0.mod.kin.keeps fun b o e => (e0.bs b o e).1
  have lim : s.heap.NoLimit := e0.mod.nolimit.keeps fun b o e => (e0.bs b o e).1
  have hl := len _ _ _ _ hsp
  refine codeAny_call_function hr.depth (KX _ _ lk) rfl S.co S.gen rfl (PySem.W.codeRec_of KX hcd) (hb _ _ _ _ ?_)
  refine wpAny_newFunctionEnv_cells S.kind (fun y hy => ?_) fun env he s1 z => ?_
  · rcases S.par y.1 (List.of_mem_zip hy).1 with q | q
    · exact .inl q
    · exact .inr ⟨q, PySem.W.cellsFrom_some _ _ _ (.inl q)⟩
  subst he
  obtain ⟨t, ht, hq⟩ := hbody cdv A outer s H vs Q E hg (hr.deeper _) hsp
  refine ⟨lim.keeps z.toInCall.keep, codeAny_func (wpAny_mono (ht.nox.run [] s1 (start N vs) H _ (inv_start S hr.hd e0 hl r z) hq) (fun fl s' hs => ?_) fun e s' hs => hs)⟩
  cases fl with
  | ret u =>
    obtain ⟨v, σ', H', J, rv, q⟩ := hs
    exact ⟨v, H', J.os, J.bare, J.base, J.hok, rv, q⟩
  | next =>
    obtain ⟨σ', H', J, q⟩ := hs
    exact ⟨.non, H', J.os, J.bare, J.base, J.hok, rfl, q⟩
  | brk =>
    obtain ⟨_, _, _, q⟩ := hs
    exact q.elim
  | cont =>
    obtain ⟨_, _, _, q⟩ := hs
    exact q.elim
end
section
variable {X : Cx} {CX : CXT} {k : Nat} {f : Addr} {fd : FuncData} {ps : List Str} {sp : Sp} {E : XK} {x : Str} {p pos : Pos} {e : Expr} {es : List Expr} {t : TA}
/-- x(e, ..) -/
theorem pe_callG (F : FnG X.prog X.w X.K X.mg X.base CX k f fd ps sp) (hgu : X.A.guards = some []) (hr : Room k X.A) (hg : Gl X x) (hm : X.mg x = some (.ref f)) (hk : PySem.W.keepIn X.K (.ref f) = true) (hb : Binds X.K fd ps []) (hx : Passes CX X E)
    (ha : PA X (e :: es) t) (hdb : (x == ("__debug__" : Str)) = false := by decide) (he : starEach (e :: es) X.env = (false, eval e X.env) :: starEach es X.env := by rfl) (hpl : (backTo pos (starEach es X.env)).any (·.1) = false := by rfl) :
    PE X (.Call (.Name x p) (e :: es) [] pos) (fun σ H Q => t σ H fun vs H1 => sp vs H1 Q E) := by
  refine ⟨fun pins s σ H Q I h => wpAny_Call_Name_kw (ld_glob I hg hm ?_ hdb)⟩
  refine PySem.W.callWith_K (h₀ := X.base) I.ok.mod.kin hk (thn (ha.run pos pins s σ H _ I h) fun us s1 ⟨vs, H1, I1, r, q⟩ => ⟨I1.kIn, ?_⟩) he hpl
  have hl : us.length = ps.length := by rw [← r.length]; exact F.len _ _ _ _ q
  have b := hb s1 us I1.kIn (by rw [List.append_nil]; exact hl)
  rw [List.append_nil] at b
  refine wpAny_call (codeAny_mono (F.run X.A X.stack s1 H1 ⟨us, []⟩ us vs Q E hgu hr I1.env0 b r q) fun r s' hq => ?_)
  cases r with
  | error e => exact hx pins σ H1 s1 e s' I1 hq
  | ok fl =>
    cases fl with
    | ret u => exact I1.after hq
    | next => exact hq.elim
    | brk => exact hq.elim
    | cont => exact hq.elim
end
/-- v's repr is t -/
inductive Pr (K : PySem.W.Frag) (H : Hp) : V → Str → Prop
  | dp {v : V} (d : PyData) (h : Dp K H v d) (hs : d.showable = true) (hd : d.hasDict = false) (hp : d.depth ≤ 20) (hl : d.shown.length ≤ sizeLine) : Pr K H v d.shown
  | ed {a : Addr} (h : H a = some (.dK [])) : Pr K H (.ref a) (PyData.dict []).shown
theorem units20 {A : Around} {k : Nat} (hr : Room k A) {n : Nat} (h : n ≤ 20) : A.units + (n + 1) < cLine := by
  have := hr.un
  omega
theorem call_repr {X : Cx} {k : Nat} (hgu : X.A.guards = some []) (hr : Room k X.A) : CallR X (.builtin "repr") (fun xs H Q => ∃ v t, xs = [v] ∧ Pr X.K H v t ∧ Q (.str t) H) := by
  intro pins s σ H xs us Q I r h
  obtain ⟨v, t, rfl, hp, q⟩ := h
  obtain ⟨u, rfl, rv⟩ := vals1 r
  cases hp with
  | dp d h hs hd hdep hl =>
    obtain ⟨as, rd⟩ := Dp.reads I d v u h rv
    cases rd with
    | none => exact PySem.P.repr_of_none ⟨.str _, H, I.tok _, ⟨_, rfl⟩, q⟩
    | bool b => exact PySem.P.repr_of_bool ⟨.str _, H, I.tok _, ⟨_, rfl⟩, q⟩
    | int i t => exact PySem.P.repr_of_int (of_decide_eq_true hs) ⟨.str _, H, I.tok _, ⟨_, rfl⟩, q⟩
    | str x t => exact PySem.P.repr_of_str ⟨.str _, H, I.tok _, ⟨_, rfl⟩, q⟩ hl
    | list h1 h2 h3 h4 => exact repr_of_reads' (.list h1 h2 h3 h4) hs (PyData.noDict_hsm hd) hgu (units20 hr hdep) (fun _ _ e => e) (fun h' u tk hk => ⟨.str _, H, I.kept (t' := tk) hk, ⟨_, rfl⟩, q⟩) hl
    | tuple h1 h2 h3 h4 => exact repr_of_reads' (.tuple h1 h2 h3 h4) hs (PyData.noDict_hsm hd) hgu (units20 hr hdep) (fun _ _ e => e) (fun h' u tk hk => ⟨.str _, H, I.kept (t' := tk) hk, ⟨_, rfl⟩, q⟩) hl
    | dict h1 h2 h3 h4 h5 => cases hd
  | @ed a h =>
    cases rv
    obtain ⟨_, hs, vs, rel, dd⟩ := dk_of I.hok h
    obtain ⟨o, es, ep, h1, h2, h3, _, h5, _⟩ := dd
    cases rel
    obtain ⟨l⟩ := es
    cases h5
    have rd : Reads s.heap (.ref a) (.dict []) (a :: [] ++ []) := .dict h1 h2.1 h3 .nil .nil
    exact repr_of_reads' rd rfl (fun _ z => by
      have z' : sysModules = a := by simpa using z
      rw [← z'] at hs
      exact absurd hs (by decide)) hgu (units20 hr (by decide)) (fun _ _ e => e) (fun h' u tk hk => ⟨.str _, H, I.kept (t' := tk) hk, ⟨_, rfl⟩, q⟩) (by decide +kernel)
end K72
end

section
set_option Elab.async false
set_option linter.all false
set_option maxRecDepth 100000
set_option maxHeartbeats 4000000
/-! sizes of what is shown; data that stands still -/
namespace K72
open PySem PySem.Spec PyProof.Rows L2
theorem nl_asc : ∀ c ∈ nl.cps.toList, c < 128 := (okz_of (L := 1) (by decide +kernel)).asc
theorem semi_eq : semi = ⟨#[59]⟩ := by decide +kernel
theorem repl_asc {x : Str} (h : ∀ c ∈ x.cps.toList, c < 128) : ∀ c ∈ (Txt.replace x semi nl).cps.toList, c < 128 := by
  rw [semi_eq, StrLaws.replace_one]
  exact join_asc nl_asc _ (split_asc h)
theorem due_okl {z : Str} (hz : Okz 1000 z) {ys : List Str} (e : dueZ z = some ys) : Okl 4010 ys := by
  unfold dueZ at e
  split at e
  · cases e
  split at e
  · cases e
  have oW := Okl.split hz
  generalize Txt.split z sp = ws at oW e
  have oW5 : Okl 4010 ws := oW.mono (by omega)
  cases ws with
  | nil => cases e
  | cons h r =>
    rw [dueW_cons] at e
    split at e
    · split at e
      · rename_i h1 h2
        cases e
        have o3 := oW.sub (List.drop_sublist 2 (h :: r))
        have o4 := o3.join
        have l4 := o4.len
        have l5 := TK.replace_len (Txt.join sp ((h :: r).drop 2)) semi nl
        have e1 : nl.length = 1 := by decide +kernel
        rw [e1] at l5
        have oh := oW.mem (List.mem_cons_self ..)
        have lh := oh.len
        have ob : Okz 1001 (r.headD e0) := by
          cases r with
          | nil => exact okz_of (by decide +kernel)
          | cons b r2 => exact oW.mem (List.mem_cons_of_mem _ (List.mem_cons_self ..))
        have lb := ob.len
        have et : textOf (h :: r) = Txt.replace (Txt.join sp ((h :: r).drop 2)) semi nl := rfl
        refine ⟨?_, fun x hx => ?_⟩
        · rw [mu_cons, mu_cons, mu_cons, mu_nil, et]
          omega
        · rcases List.mem_cons.mp hx with rfl | hx
          · exact oh.asc
          rcases List.mem_cons.mp hx with rfl | hx
          · exact ob.asc
          cases List.mem_singleton.mp hx
          rw [et]
          exact repl_asc o4.asc
      · cases e
    split at e
    · split at e
      · cases e
        exact oW5
      · cases e
    split at e
    · split at e
      · cases e
        exact oW5
      · cases e
    split at e
    · split at e
      · cases e
        exact oW5
      · cases e
    split at e
    · split at e
      · cases e
        exact oW5
      · cases e
    · cases e
def tupD (ys : List Str) : PyData := .tuple (ys.map PyData.str)
theorem all_strs : ∀ ys : List Str, PyData.showableAll (ys.map PyData.str) = true ∧ PyData.hasDictAll (ys.map PyData.str) = false ∧ PyData.depthAll (ys.map PyData.str) ≤ 1 ∧ PyData.shownAll (ys.map PyData.str) = ys.map reprText
  | [] => ⟨rfl, rfl, by decide, rfl⟩
  | y :: r => by
    obtain ⟨a, b, c, d⟩ := all_strs r
    refine ⟨?_, ?_, ?_, ?_⟩
    · simp only [List.map_cons, PyData.showableAll, PyData.showable, a, Bool.and_self]
    · simp only [List.map_cons, PyData.hasDictAll, PyData.hasDict, b, Bool.or_self]
    · simp only [List.map_cons, PyData.depthAll, PyData.depth]
      omega
    · simp only [List.map_cons, PyData.shownAll, PyData.shown, d]
theorem sum_repr : ∀ ys : List Str, (∀ x ∈ ys, ∀ c ∈ x.cps.toList, c < 128) → ((ys.map reprText).map (·.length)).sum + 2 * ys.length ≤ 10 * mu ys
  | [], _ => Nat.zero_le _
  | y :: r, h => by
    have ih := sum_repr r fun x hx => h x (List.mem_cons_of_mem _ hx)
    have hy := StrLaws.reprText_len y fun c hc => Nat.lt_trans (h y (List.mem_cons_self ..) c hc) (by decide)
    rw [mu_cons, List.map_cons, List.map_cons, List.sum_cons, List.length_cons]
    omega
theorem shown_tup {ys : List Str} {L : Nat} (h : Okl L ys) : (tupD ys).shown.length ≤ 10 * L + 3 := by
  have e : (tupD ys).shown = tupleText (ys.map reprText) := by
    show tupleText (PyData.shownAll (ys.map PyData.str)) = _
    rw [(all_strs ys).2.2.2]
  rw [e]
  have a := tupleText_len_le (ys.map reprText)
  have b := sum_repr ys h.asc
  have c := h.mu
  rw [List.length_map] at a
  omega
theorem shown_two (d : PyData) : (PyData.list [d, d]).shown.length ≤ 2 * d.shown.length + 7 := by
  have a := listText_len_le [d.shown, d.shown]
  have e : (PyData.list [d, d]).shown = listText [d.shown, d.shown] := rfl
  rw [e]
  simp only [List.map_cons, List.map_nil, List.sum_cons, List.sum_nil, List.length_cons, List.length_nil] at a
  omega
theorem dp_strs {K : PySem.W.Frag} {H : Hp} : ∀ ys : List Str, DpAll K H (ys.map V.str) (ys.map PyData.str)
  | [] => .nil
  | y :: r => .cons (.str y) (dp_strs r)
theorem dp_tup {K : PySem.W.Frag} {H : Hp} {p : Addr} {ys : List Str} (h : H p = some (.tup (ys.map V.str))) : Dp K H (.ref p) (tupD ys) := .tup (SqT.of h) (dp_strs ys)
abbrev noneD : PyData := .list [.str (Str.ofString "none"), .bool true]
theorem dp_none {K : PySem.W.Frag} {H : Hp} {p : Addr} (h : H p = some (.lst noneL)) : Dp K H (.ref p) noneD := .lst (SqL.of h) (.cons (.str _) (.cons (.bl _) .nil))
/-- what both sides show -/
def outD : Option (List Str) → PyData
  | some ys => tupD ys
  | none => noneD
structure Shows (d : PyData) : Prop where
  hs : d.showable = true
  hd : d.hasDict = false
  hp : d.depth ≤ 3
  hl : d.shown.length ≤ 40200
theorem shows_tup {ys : List Str} (h : Okl 4010 ys) : Shows (tupD ys) := by
  obtain ⟨a, b, c, d⟩ := all_strs ys
  refine ⟨?_, ?_, ?_, Nat.le_trans (shown_tup h) (by decide)⟩
  · show PyData.showableAll _ = true
    exact a
  · show PyData.hasDictAll _ = false
    exact b
  · show PyData.depthAll _ + 1 ≤ 3
    omega
theorem shows_none : Shows noneD := ⟨rfl, rfl, by decide, by decide +kernel⟩
theorem Pr.two {K : PySem.W.Frag} {H : Hp} {p : Addr} {x y : V} {d : PyData} (h : H p = some (.lst [x, y])) (hx : Dp K H x d) (hy : Dp K H y d) (s : Shows d) : Pr K H (.ref p) (PyData.list [d, d]).shown := by
  refine .dp _ (.lst (SqL.of h) (.cons hx (.cons hy .nil))) ?_ ?_ ?_ ?_
  · show (d.showable && (d.showable && true)) = true
    rw [s.hs]
    rfl
  · show (d.hasDict || (d.hasDict || false)) = false
    rw [s.hd]
    rfl
  · have := s.hp
    simp only [PyData.depth, PyData.depthAll]
    omega
  · have := shown_two d
    have := s.hl
    exact line_len (by omega)
theorem seqT_up {K : PySem.W.Frag} {H H' : Hp} {a : Addr} {xs : List V} (e : Same H H') (h : SqT K H a xs) : SqT K H' a xs := by
  rcases h with (h | ⟨o, h⟩) | h
  · exact .inl (.inl (e _ _ h))
  · exact .inl (.inr ⟨o, e _ _ h⟩)
  · exact .inr h
mutual
theorem Dp.up {K : PySem.W.Frag} {H H' : Hp} (e : Same H H') : ∀ (d : PyData) (v : V), Dp K H v d → Dp K H' v d
  | .none, _, h => by
    cases h
    exact .non
  | .bool b, _, h => by
    cases h
    exact .bl b
  | .int i, _, h => by
    cases h
    exact .int i
  | .str x, _, h => by
    cases h
    exact .str x
  | .list ds, _, h => by
    cases h with
    | lst hq hr => exact .lst (e.seq hq) (DpAll.up e ds _ hr)
  | .tuple ds, _, h => by
    cases h with
    | tup hq hr => exact .tup (seqT_up e hq) (DpAll.up e ds _ hr)
  | .dict _, _, h => by cases h
theorem DpAll.up {K : PySem.W.Frag} {H H' : Hp} (e : Same H H') : ∀ (ds : List PyData) (vs : List V), DpAll K H vs ds → DpAll K H' vs ds
  | [], _, h => by
    cases h
    exact .nil
  | d :: ds, _, h => by
    cases h with
    | cons a b => exact .cons (Dp.up e d _ a) (DpAll.up e ds _ b)
end
theorem Pr.up {K : PySem.W.Frag} {H H' : Hp} {v : V} {t : Str} (h : Pr K H v t) (e : Same H H') : Pr K H' v t := by
  cases h with
  | dp d h hs hd hp hl => exact .dp d (Dp.up e d v h) hs hd hp hl
  | ed h => exact .ed (e _ _ h)
theorem pr_str {K : PySem.W.Frag} {H : Hp} {z : Str} (h : Okz 1000 z) : Pr K H (.str z) (PyData.str z).shown := by
  have a := StrLaws.reprText_len z fun c hc => Nat.lt_trans (h.asc c hc) (by decide)
  have l := h.len
  exact .dp _ (.str z) rfl rfl (by show 0 ≤ 20; decide) (line_len (by show (reprText z).length ≤ _; omega))
end K72
end

section
set_option Elab.async false
set_option linter.all false
set_option maxRecDepth 100000
set_option maxHeartbeats 16000000
namespace K72
open PySem PySem.Spec PyProof.Rows L2
/-- a value that the law asks about -/
def It (K : PySem.W.Frag) (H : Hp) (v : V) : Prop := ∃ t, Pr K H v t ∧ ((∃ z, v = .str z ∧ Okz 1000 z) ∨ NoStr K H v)
theorem It.up {K : PySem.W.Frag} {H H' : Hp} {v : V} (h : It K H v) (e : Same H H') : It K H' v := by
  obtain ⟨t, p, o⟩ := h
  exact ⟨t, p.up e, o.elim .inl fun n => .inr (n.same e)⟩
theorem It.out {K : PySem.W.Frag} {H : Hp} {v : V} (h : It K H v) : ∃ o, Out K H v o ∧ ∀ ys, o = some ys → Okl 4010 ys := by
  obtain ⟨t, p, ⟨z, rfl, hz⟩ | n⟩ := h
  · exact ⟨dueZ z, .inl ⟨z, rfl, hz, rfl⟩, fun ys e => due_okl hz e⟩
  · exact ⟨none, .inr ⟨n, rfl⟩, fun ys e => nomatch e⟩
theorem it_str {K : PySem.W.Frag} {H : Hp} {z : Str} (h : Okz 1000 z) : It K H (.str z) := ⟨_, pr_str h, .inl ⟨z, rfl, h⟩⟩
theorem Out.up {K : PySem.W.Frag} {H H' : Hp} {v : V} {o : Option (List Str)} (h : Out K H v o) (e : Same H H') : Out K H' v o := by
  rcases h with h | ⟨n, q⟩
  · exact .inl h
  · exact .inr ⟨n.same e, q⟩
/-- what is due, as a value -/
def DueAt (H : Hp) (o : Option (List Str)) (D : V) : Prop := (∃ ys p, o = some ys ∧ D = .ref p ∧ H p = some (.tup (ys.map V.str))) ∨ (o = none ∧ D = .non)
theorem Out.due {K : PySem.W.Frag} {H : Hp} {v : V} {o : Option (List Str)} (h : Out K H v o) {Q : VK} {E : XK} (k : ∀ D H', Same H H' → DueAt H' o D → Q D H') : spDue K [v] H Q E := by
  rcases h with ⟨z, rfl, hz, ez⟩ | ⟨hn, rfl⟩
  · exact .inl ⟨z, rfl, hz, fun e H' s => k _ _ s (.inr ⟨by rw [← ez]; exact e, rfl⟩), fun ys e H' p s hp => k _ _ s (.inl ⟨ys, p, by rw [← ez]; exact e, rfl, hp⟩)⟩
  · exact .inr ⟨v, rfl, hn, k _ _ (Same.refl _) (.inr ⟨rfl, rfl⟩)⟩
theorem shows_out {o : Option (List Str)} (h : ∀ ys, o = some ys → Okl 4010 ys) : Shows (outD o) := by
  cases o with
  | none => exact shows_none
  | some ys => exact shows_tup (h ys rfl)
/-- what a hearing gives -/
theorem Out.heard {K : PySem.W.Frag} {H : Hp} {v : V} {o : Option (List Str)} (b : Bool) (h : Out K H v o) {Q : VK} {E : XK} (k : ∀ H' p, Same H H' → Dp K H' (.ref p) (outD o) → Q (.ref p) H') : spHeard K [v, .bl b] H Q E :=
  ⟨v, b, o, rfl, h, fun ys e H' p s hp => k H' p s (by rw [e]; exact dp_tup hp), fun e H' p s hp => k H' p s (by rw [e]; exact dp_none hp)⟩
def spRight (K : PySem.W.Frag) : Sp := fun vs H Q _ => ∃ v, vs = [v] ∧ It K H v ∧ ∀ H', Same H H' → Q (.bl true) H'
section
variable {w : World} {mg : Str → Option Value} {base : Heap}
theorem ok_right (M : Mg mg) : FnG prog w (Kf w.params) mg base CX0 6 1865 fd__law_right ["it"] (spRight (Kf w.params)) := by
  have GD : FnOk prog w (Kf w.params) mg base CX0 1 1844 fd__law_due ["it"] (spDue (Kf w.params)) := ok_due M
  have GH : FnOk prog w (Kf w.params) mg base CX0 2 1851 fd__law_heard ["it", "is_named"] (spHeard (Kf w.params)) := ok_heard M
  have GS : FnOk prog w (Kf w.params) mg base CX0 5 1858 fd__law_said ["it"] (spSaid (Kf w.params)) := ok_said M
  refine Fun.okG (F__law_right w.params) (sc__law_right) (fun vs H Q E h => ?_) (fun cdv A outer s H vs Q E hgu hr h => ?_)
  · obtain ⟨v, rfl, _⟩ := h
    rfl
  · obtain ⟨v, rfl, hv, k⟩ := h
    have nd := sc__law_right.nd
    have hr1 : Room 1 _ := hr.mono (by decide)
    have hr2 : Room 2 _ := hr.mono (by decide)
    refine ⟨_, (pss_cons (ps_par (i := 1) (j := 2) rfl nd rfl rfl (by decide) rfl rfl (pa_cons (pe_call GD hr1 (by rfl) M.m__law_due (F__law_due w.params).kp (b__law_due w.params) .nil pass0 (pa_cons (pv 0) pa_nil)) (pa_cons (pe_callB (call_repr hgu hr) (by rfl) M.m_repr (by decide +kernel) (pa_cons (pv 0) pa_nil)) pa_nil)) (by rfl))
      (pss_cons (ps_set (i := 3) nd rfl (Or.inl rfl) (pe_ifExp (pt_cmpR op_notN (pv 1) pe_non (nomark _)) (pv 1) (pe_lst (pa_cons pe_str (pa_cons pe_bl pa_nil)))))
      (pss_cons (ps_if (PW.pt (pw_or (pt_cmpR op_ne (pe_callB (call_repr hgu hr) (by rfl) M.m_repr (by decide +kernel) (pa_cons (pe_lst (pa_cons (pe_call GH hr2 (by rfl) M.m__law_heard (F__law_heard w.params).kp (b__law_heard w.params) .nil pass0 (pa_cons (pv 0) (pa_cons pe_bl pa_nil))) (pa_cons (pe_call GH hr2 (by rfl) M.m__law_heard (F__law_heard w.params).kp (b__law_heard w.params) .nil pass0 (pa_cons (pv 0) (pa_cons pe_bl pa_nil))) pa_nil))) pa_nil)) (pe_callB (call_repr hgu hr) (by rfl) M.m_repr (by decide +kernel) (pa_cons (pe_lst (pa_cons (pv 3) (pa_cons (pv 3) pa_nil))) pa_nil)) (nomark _)) (pw_or1 (pt_cmpR op_ne (pe_callB (call_repr hgu hr) (by rfl) M.m_repr (by decide +kernel) (pa_cons (pv 0) pa_nil)) (pv 2) (nomark _))))) (pss_one (ps_ret pe_bl)) pss_nil)
      (pss_one (ps_ret (pe_or (pe_cmpR op_notN (pv 1) pe_non (nomark _)) (pe_one (pe_cmpR op_eq (pe_call GS hr (by rfl) M.m__law_said (F__law_said w.params).kp (b__law_said w.params) .nil pass0 (pa_cons (pv 0) pa_nil)) pe_str (nomark _))))))))), ?_⟩
    obtain ⟨t, hp, hc⟩ := id hv
    obtain ⟨o, ho, hys⟩ := hv.out
    have sh := shows_out hys
    refine ⟨_, rfl, ?_⟩
    dsimp only [tNil, List.append_nil]
    refine ho.due fun D H1 s1 hD => ?_
    refine ⟨_, rfl, v, t, rfl, hp.up s1, _, _, rfl, ?_⟩
    refine cutSeq (fun σ' H' => ∃ m, σ' = [some v, some D, some (.str t), some m] ∧ Same H1 H' ∧ Dp (Kf w.params) H' m (outD o)) (fun NX tail => ?_) ?_
    · refine ⟨_, rfl, rfl, _, rfl, ?_⟩
      rcases hD with ⟨ys, p, rfl, rfl, hp1⟩ | ⟨rfl, rfl⟩
      · rw [decide_eq_false (fun z => by cases z)]
        exact iteT ⟨_, rfl, tail _ _ ⟨_, rfl, Same.refl _, dp_tup hp1⟩⟩
      · rw [decide_eq_true rfl]
        exact iteF ⟨(by show 2 ≤ sizeLine; decide), fun p hp2 => tail _ _ ⟨_, rfl, Same.up hp2, dp_none upd_same⟩⟩
    rintro σ' H2 ⟨m, rfl, s2, dm⟩
    have ho2 := ho.up (s1.trans s2)
    refine ⟨_, rfl, ?_⟩
    dsimp only [tCons, tNil, tC, List.append_nil, List.cons_append, List.nil_append]
    refine ho2.heard false fun H3 p3 s3 d3 => ?_
    refine ⟨_, rfl, ?_⟩
    dsimp only [tCons, tNil, tC, List.append_nil, List.cons_append, List.nil_append]
    refine (ho2.up s3).heard true fun H4 p4 s4 d4 => ?_
    refine ⟨(by show 2 ≤ sizeLine; decide), fun p5 hp5 => ?_⟩
    have s5 := Same.up (o := .lst [V.ref p3, V.ref p4]) hp5
    refine ⟨_, _, rfl, Pr.two upd_same (Dp.up (s4.trans s5) _ _ d3) (Dp.up s5 _ _ d4) sh, ?_⟩
    have dm5 := Dp.up (s3.trans (s4.trans s5)) _ _ dm
    refine ⟨_, rfl, _, rfl, (by show 2 ≤ sizeLine; decide), fun p6 hp6 => ?_⟩
    have s6 := Same.up (o := .lst [m, m]) hp6
    have dm6 := Dp.up s6 _ _ dm5
    refine ⟨_, _, rfl, Pr.two upd_same dm6 dm6 sh, rfl, _, rfl, ?_⟩
    have s7 := s1.trans (s2.trans (s3.trans (s4.trans (s5.trans s6))))
    rw [decide_eq_true rfl]
    refine iteF ?_
    refine ⟨_, rfl, v, t, rfl, hp.up s7, _, rfl, rfl, _, rfl, ?_⟩
    rw [decide_eq_true rfl]
    refine iteF ?_
    refine ⟨_, rfl, rfl, _, rfl, ?_⟩
    rcases hD with ⟨ys, p, rfl, rfl, hp1⟩ | ⟨rfl, rfl⟩
    · rw [decide_eq_false (fun z => by cases z)]
      exact iteT (k _ s7)
    · rw [decide_eq_true rfl]
      refine iteF ⟨_, rfl, ?_⟩
      refine ⟨v, rfl, ho.up s7, fun H8 s8 => ⟨rfl, ?_⟩⟩
      rw [decide_eq_true rfl]
      exact k _ (s7.trans s8)
end
end K72
end

section
set_option Elab.async false
set_option linter.all false
set_option maxRecDepth 100000
set_option maxHeartbeats 16000000
namespace K72
open PySem PySem.Spec PyProof.Rows L2
theorem sc_lawI : FnScope ["script", "deck", "turn", "line", "near", "odd", "it"] ["script"] (defScope s_law) := ⟨rfl, rfl, rfl, by decide +kernel, rfl, by decide +kernel, by decide +kernel⟩
def spLaw (K : PySem.W.Frag) : Sp := fun vs H Q _ => ∃ (a : Addr) (ns : List Int), vs = [.ref a] ∧ SqL K H a (ns.map V.int) ∧ ns.length ≤ 63 ∧ ∀ H', Q (.bl true) H'
theorem lcn_tup {K : PySem.W.Frag} {H1 : Hp} {a D : Addr} {xs : List V} {Qd : Hp → Prop} {s0 s1 s2 s3 s4 s5 s6 : Option V} (hx : SqT K H1 a xs) (hD : H1 D = none) (hit : ∀ x ∈ xs, It K H1 x) (hd : ∀ H, Same H1 H → H D = some (.lst []) → Qd H) :
    ∃ W : Nat → Nat → Hp → Prop, (∃ m, W 0 m (upd H1 D (.lst []))) ∧ ∀ i m H, W i m H →
      ((Itt K a).stop i H ∧ Qd H) ∨ ((Itt K a).go i H ∧ ∃ Nx : Hp → Prop, (∀ H', Nx H' → ∃ m', m' < m ∧ W (i + 1) m' H') ∧ ∀ x H', (Itt K a).yld i H x H' → gName 6 x (wipe [s0, s1, s2, s3, s4, s5, s6] [6]) H' fun σ2 H2 => wipe σ2 [6] = wipe [s0, s1, s2, s3, s4, s5, s6] [6] ∧
        (tNot (tB fun σ H Q => tCons (tVar 6) tNil σ H fun vs H1 => spRight K vs H1 Q E0)) σ2 H2 fun b H3 => if b = true then tVar 6 σ2 H3 fun y H4 => ∃ acc, H4 D = some (.lst acc) ∧ acc.length < sizeLine ∧ Nx (upd H4 D (.lst (acc ++ [y]))) else Nx H3) := by
  refine lc_tup (Pv := fun _ H => Same (upd H1 D (.lst [])) H) (Same.refl _) (fun i H _ s => seqT_up ((Same.up hD).trans s) hx) (fun i x H e s => ?_) fun H s => hd H ((Same.up hD).trans s) (s _ _ upd_same)
  refine ⟨rfl, _, rfl, x, rfl, (hit x (List.mem_of_getElem? e)).up ((Same.up hD).trans s), fun H' s' => ⟨_, rfl, iteF (s.trans s')⟩⟩
theorem lcn_list {K : PySem.W.Frag} {H1 : Hp} {a D : Addr} {xs : List V} {Qd : Hp → Prop} {s0 s1 s2 s3 s4 s5 s6 : Option V} (hx : SqL K H1 a xs) (hD : H1 D = none) (hit : ∀ x ∈ xs, It K H1 x) (hd : ∀ H, Same H1 H → H D = some (.lst []) → Qd H) :
    ∃ W : Nat → Nat → Hp → Prop, (∃ m, W 0 m (upd H1 D (.lst []))) ∧ ∀ i m H, W i m H →
      ((Itl K a).stop i H ∧ Qd H) ∨ ((Itl K a).go i H ∧ ∃ Nx : Hp → Prop, (∀ H', Nx H' → ∃ m', m' < m ∧ W (i + 1) m' H') ∧ ∀ x H', (Itl K a).yld i H x H' → gName 6 x (wipe [s0, s1, s2, s3, s4, s5, s6] [6]) H' fun σ2 H2 => wipe σ2 [6] = wipe [s0, s1, s2, s3, s4, s5, s6] [6] ∧
        (tNot (tB fun σ H Q => tCons (tVar 6) tNil σ H fun vs H1 => spRight K vs H1 Q E0)) σ2 H2 fun b H3 => if b = true then tVar 6 σ2 H3 fun y H4 => ∃ acc, H4 D = some (.lst acc) ∧ acc.length < sizeLine ∧ Nx (upd H4 D (.lst (acc ++ [y]))) else Nx H3) := by
  refine lc_list (Pv := fun _ H => Same (upd H1 D (.lst [])) H) (Same.refl _) (fun i H _ s => ((Same.up hD).trans s).seq hx) (fun i x H e s => ?_) fun H s => hd H ((Same.up hD).trans s) (s _ _ upd_same)
  refine ⟨rfl, _, rfl, x, rfl, (hit x (List.mem_of_getElem? e)).up ((Same.up hD).trans s), fun H' s' => ⟨_, rfl, iteF (s.trans s')⟩⟩
theorem eqv_nil : PyData.eqv (.list []) (.list []) = true := eqv_ints []
theorem all3 {p : V → Prop} {x y z : V} (a : p x) (b : p y) (c : p z) : ∀ v ∈ [x, y, z], p v := fun v h => by
  rcases List.mem_cons.mp h with rfl | h
  · exact a
  rcases List.mem_cons.mp h with rfl | h
  · exact b
  cases List.mem_singleton.mp h
  exact c
theorem all_strIt {K : PySem.W.Frag} {H : Hp} {ys : List Str} (h : ys.all (okzB 1000) = true) : ∀ v ∈ ys.map V.str, It K H v := fun v hv => by
  obtain ⟨z, hz, rfl⟩ := List.mem_map.mp hv
  exact it_str (okz_of (List.all_eq_true.mp h z hz))
section
variable (P : Params) {H : Hp}
theorem it_non : It (Kf P) H .non := ⟨_, .dp .none .non rfl rfl (by decide) (by decide +kernel), .inr ⟨_, .base .non, by kernel_rfl⟩⟩
theorem it_bl (b : Bool) : It (Kf P) H (.bl b) := ⟨_, .dp (.bool b) (.bl b) rfl rfl (by show 0 ≤ 20; decide) (by cases b <;> decide +kernel), .inr ⟨_, .base (.bl b), by kernel_rfl⟩⟩
theorem it_zero : It (Kf P) H (.int 0) := ⟨_, .dp (.int 0) (.int 0) rfl rfl (by decide) (by decide +kernel), .inr ⟨_, .base (.int 0), by kernel_rfl⟩⟩
theorem it_tup {p : Addr} {ys : List Str} (h : H p = some (.tup (ys.map V.str))) (o : Okl 4010 ys) : It (Kf P) H (.ref p) :=
  ⟨_, .dp _ (dp_tup h) (shows_tup o).hs (shows_tup o).hd (Nat.le_trans (shows_tup o).hp (by decide)) (line_len (Nat.le_trans (shows_tup o).hl (by decide))), .inr ⟨_, .base (.tup h), by kernel_rfl⟩⟩
theorem it_lst {p : Addr} {y : Str} (h : H p = some (.lst [.str y])) (hl : (PyData.list [.str y]).shown.length ≤ sizeLine) : It (Kf P) H (.ref p) :=
  ⟨_, .dp (.list [.str y]) (.lst (SqL.of h) (.cons (.str y) .nil)) rfl rfl (by show 1 ≤ 20; decide) hl, .inr ⟨_, .base (.lst h), by kernel_rfl⟩⟩
theorem it_dict {p : Addr} (h : H p = some (.dK [])) : It (Kf P) H (.ref p) := ⟨_, .ed h, .inr ⟨_, .base (.dK h), by kernel_rfl⟩⟩
end
section
variable {w : World} {mg : Str → Option Value} {base : Heap}
theorem ok_law (M : Mg mg) : FnG prog w (Kf w.params) mg base CX0 7 1870 fd_law ["script"] (spLaw (Kf w.params)) := by
  have GI : FnOk prog w (Kf w.params) mg base CX0 1 1795 fd__law_start ["script"] (spStart (Kf w.params)) := ok_start M
  have GL : FnOk prog w (Kf w.params) mg base CX0 4 1830 fd__law_line ["deck"] (spText 150 4) := ok_line M
  have GB1 : FnOk prog w (Kf w.params) mg base CX0 3 1837 fd__law_bent ["deck", "line"] (spBent 150) := ok_bent M 150 (by decide)
  have GB2 : FnOk prog w (Kf w.params) mg base CX0 3 1837 fd__law_bent ["deck", "line"] (spBent 320) := ok_bent M 320 (by decide)
  have GR : FnG prog w (Kf w.params) mg base CX0 6 1865 fd__law_right ["it"] (spRight (Kf w.params)) := ok_right M
  refine Fun.okG (F_law w.params) (sc_lawI) (fun vs H Q E h => ?_) (fun cdv A outer s H vs Q E hgu hr h => ?_)
  · obtain ⟨a, ns, rfl, _⟩ := h
    rfl
  · obtain ⟨a, ns, rfl, hS, hlen, k⟩ := h
    have nd := sc_lawI.nd
    have hr1 : Room 1 _ := hr.mono (by decide)
    have hr3 : Room 3 _ := hr.mono (by decide)
    have hr4 : Room 4 _ := hr.mono (by decide)
    refine ⟨_, (pss_cons (ps_set (i := 1) nd rfl (Or.inl rfl) (pe_call GI hr1 (by rfl) M.m__law_start (F__law_start w.params).kp (b__law_start w.params) .nil pass0 (pa_cons (pv 0) pa_nil)))
      (pss_cons (ps_for PassesOwn.never rfl (pi_range1 (by rfl) M.m_range (pa_cons pe_int pa_nil)) (pg_name (i := 2) nd rfl (Or.inl rfl)) (pss_cons (ps_set (i := 3) nd rfl (Or.inl rfl) (pe_call GL hr4 (by rfl) M.m__law_line (F__law_line w.params).kp (b__law_line w.params) .nil pass0 (pa_cons (pv 1) pa_nil)))
      (pss_cons (ps_set (i := 4) nd rfl (Or.inl rfl) (pe_call GB1 hr3 (by rfl) M.m__law_bent (F__law_bent w.params).kp (b__law_bent w.params) .nil pass0 (pa_cons (pv 1) (pa_cons (pv 3) pa_nil))))
      (pss_one (ps_if (pt_cmpR (op_neD hr.units) (pe_lc (own := [("it", 6)]) (g := gName 6) rfl nd (pi_tup (pe_tup (pa_cons (pv 3) (pa_cons (pv 4) (pa_cons (pe_call GB2 hr3 (by rfl) M.m__law_bent (F__law_bent w.params).kp (b__law_bent w.params) .nil pass0 (pa_cons (pv 1) (pa_cons (pv 4) pa_nil))) pa_nil))))) (blkOk_by (N := ["script", "deck", "turn", "line", "near", "odd", "it"]) (sc := defScope s_law) (by decide +kernel)) (fun _ _ _ _ _ => pg_name (i := 6) nd rfl (Or.inl rfl)) (fun _ _ _ _ _ => pts_one (pt_not (pt_val (pe_callG GR hgu hr (by rfl) M.m__law_right (F__law_right w.params).kp (b__law_right w.params) pass0 (pa_cons (pv 6) pa_nil))))) (fun _ _ _ _ _ => (pv 6))) (pe_lst pa_nil) (nomark _)) (pss_one (ps_ret pe_bl)) pss_nil)))))
      (pss_cons (ps_set (i := 5) nd rfl (Or.inl rfl) (pe_lst (pa_cons pe_non (pa_cons pe_bl (pa_cons pe_int (pa_cons (pe_tup pa_nil) (pa_cons (pe_tup (pa_strs _ (by decide +kernel))) (pa_cons (pe_lst (pa_strs _ (by decide +kernel))) (pa_cons pe_dnewK (pa_cons pe_str (pa_cons pe_str (pa_cons pe_str (pa_cons pe_str (pa_cons pe_str (pa_cons pe_str (pa_cons pe_str pa_nil))))))))))))))))
      (pss_cons (ps_set (i := 5) nd rfl (Or.inl rfl) (pe_op op_cat (pv 5) (pe_lst (pa_strs _ (by decide +kernel)))))
      (pss_one (ps_ret (pe_cmpR (op_eqD hr.units) (pe_lc (own := [("it", 6)]) (g := gName 6) rfl nd (pi_list (pv 5)) (blkOk_by (N := ["script", "deck", "turn", "line", "near", "odd", "it"]) (sc := defScope s_law) (by decide +kernel)) (fun _ _ _ _ _ => pg_name (i := 6) nd rfl (Or.inl rfl)) (fun _ _ _ _ _ => pts_one (pt_not (pt_val (pe_callG GR hgu hr (by rfl) M.m__law_right (F__law_right w.params).kp (b__law_right w.params) pass0 (pa_cons (pv 6) pa_nil))))) (fun _ _ _ _ _ => (pv 6))) (pe_lst pa_nil) (nomark _)))))))), ?_⟩
    refine ⟨_, rfl, a, ns, rfl, hS, hlen, fun d l H1 ns1 m hd hl s1 D1 => ?_⟩
    dsimp only [gName]
    refine ⟨12, rfl, by decide, by decide, for_range (n := 12) (fun i σ H => ∃ (ns : List Int) (n : Int) (v2 v3 v4 : Option V), σ = [some (.ref a), some (.ref d), v2, v3, v4, none, none] ∧ DeckAt H d l ns m n ∧ n ≤ 10 * (i : Int))
      ⟨ns1, 0, none, none, none, rfl, D1, by decide⟩ (fun i σ H hi hP => ?_) fun σ H hP => ?_⟩
    · obtain ⟨ns, n, v2, v3, v4, rfl, D, hn⟩ := hP
      refine ⟨_, rfl, d, l, ns, m, n, rfl, D, by omega, fun H2 ns2 n2 z hz D2 e2 _ => ?_⟩
      refine ⟨_, rfl, _, rfl, d, l, ns2, m, n2, z, rfl, hz, D2, by omega, fun H3 ns3 n3 y hy D3 e3 _ => ?_⟩
      refine ⟨_, rfl, _, rfl, _, rfl, _, rfl, d, l, ns3, m, n3, y, rfl, hy, D3, by omega, fun H4 ns4 n4 x hx D4 e4 _ => ?_⟩
      refine ⟨(by show 3 ≤ sizeLine; decide), fun p hp => ⟨p, rfl, ⟨_, SqT.of upd_same⟩, fun D hD => lcn_tup (SqT.of upd_same) hD (all3 (it_str (hz.mono (by decide))) (it_str (hy.mono (by decide))) (it_str (hx.mono (by decide)))) fun H5 s5 hD5 => ?_⟩⟩
      refine ⟨(by show 0 ≤ sizeLine; decide), fun p2 hp2 => ⟨.list [], .list [], .lst (SqL.of ((Same.up hp2) _ _ hD5)) .nil, .lst (SqL.of upd_same) .nil, by decide, by decide, _, rfl, ?_⟩⟩
      rw [eqv_nil]
      refine iteF ⟨ns4, n4, _, _, _, rfl, D4.same ((Same.up hp).trans (s5.trans (Same.up hp2))), ?_⟩
      omega
    · obtain ⟨ns, n, v2, v3, v4, rfl, D, hn⟩ := hP
      refine ⟨(by show 0 ≤ sizeLine; decide), fun p1 h1 => ?_⟩
      refine ⟨(by show 1 ≤ sizeLine; decide), fun p2 h2 => ?_⟩
      refine ⟨(by show 1 ≤ sizeLine; decide), fun p3 h3 => ?_⟩
      intro p4 h4
      refine ⟨(by show 14 ≤ sizeLine; decide), fun p5 h5 => ?_⟩
      dsimp only [gName]
      refine ⟨_, rfl, (by show 4 ≤ sizeLine; decide), fun p6 h6 => ⟨p5, p6, _, _, rfl, rfl, (Same.up h6) _ _ upd_same, upd_same, (by show 18 ≤ sizeLine; decide), fun p7 h7 => ?_⟩⟩
      refine ⟨_, rfl, p7, rfl, ⟨_, SqL.of upd_same⟩, fun D hD => lcn_list (SqL.of upd_same) hD ?_ fun H8 s8 hD8 => ?_⟩
      · intro x hx
        refine It.up ?_ (Same.trans (Same.trans (Same.up h5) (Same.up h6)) (Same.up h7))
        rcases List.mem_cons.mp hx with rfl | hx
        · exact it_non w.params
        rcases List.mem_cons.mp hx with rfl | hx
        · exact it_bl w.params true
        rcases List.mem_cons.mp hx with rfl | hx
        · exact it_zero w.params
        rcases List.mem_cons.mp hx with rfl | hx
        · exact it_tup w.params (ys := []) ((Same.trans (Same.trans (Same.up h2) (Same.up h3)) (Same.up h4)) _ _ upd_same) ⟨Nat.zero_le _, fun x h => nomatch h⟩
        rcases List.mem_cons.mp hx with rfl | hx
        · exact it_tup w.params (ys := [Str.ofString "undo"]) ((Same.trans (Same.up h3) (Same.up h4)) _ _ upd_same) (Okl.mono (L := 5) (Okl.one (L := 4) (okz_of (by decide +kernel))) (by decide))
        rcases List.mem_cons.mp hx with rfl | hx
        · exact it_lst w.params (y := Str.ofString "undo") ((Same.up h4) _ _ upd_same) (by decide +kernel)
        rcases List.mem_cons.mp hx with rfl | hx
        · exact it_dict w.params upd_same
        exact all_strIt (ys := [Str.ofString "", Str.ofString " ", Str.ofString "undo ", Str.ofString " undo", Str.ofString "Undo", Str.ofString "open", Str.ofString "open hall", Str.ofString "learn a b", Str.ofString "open hall rooms 0\nfirst 0", Str.ofString "undo\n", Str.ofString "close a\nb"]) (by decide +kernel) x hx
      · refine ⟨(by show 0 ≤ sizeLine; decide), fun p8 hp8 => ⟨.list [], .list [], .lst (SqL.of ((Same.up hp8) _ _ hD8)) .nil, .lst (SqL.of upd_same) .nil, by decide, by decide, ?_⟩⟩
        rw [eqv_nil]
        exact k _
end
end K72
end

set_option Elab.async false
set_option linter.all false
set_option maxRecDepth 100000
set_option maxHeartbeats 4000000
namespace K72
open PySem PySem.Spec PyProof.Rows L2
/-- the law's promise where no repr is under way, at the heap behind the top (L2.law_call for FnG) -/
theorem law_callG {P : Program} {w : World} {K : PySem.W.Frag} {mg mb : Str → Option Value} {CX : CXT} {k : Nat} {fa a : Addr} {fd : FuncData} {x : Str} {sp : Sp} {s₁ : Shared} {vs : List Value} {ns : List Int}
    (KX : K.In s₁.heap) (hns : s₁.heap.Ns mainGlobals mg) (hb : s₁.heap.Ns builtinsNs mb) (hbb : ∀ x : Str, x ≠ "__name__" → mb x = bootBuiltins x) (hlim : s₁.heap.NoLimit) (hg : s₁.gens = #[])
    (ha : s₁.heap.get? a = some { cls := .type "list", data := .seq vs.toArray }) (hi : IntsAre vs ns) (hl : ns.length ≤ sizeLine) (hr : Room k callerA)
    (F : ∀ base : Heap, K.In base → base.Ns mainGlobals mg → FnG P w K mg base CX k fa fd [x] sp) (hbind : ∀ (s : Shared) (u : Value), BindsTo s fd ⟨[u], []⟩ [(x, u)])
    (hsp : ∀ H : Hp, SqL K H a (ns.map V.int) → sp [.ref a] H (fun v _ => v = .bl true) fun _ _ _ => False)
    (hCX : ∀ H e s', CX [] H s₁ (fun _ _ _ => False) e s' → False) :
    codeAny (model P w) callerA (.call (.ref fa) ⟨[.ref a], []⟩) (fun r s' => r = .ok (.ret (.bool true)) ∧ OldK s₁.heap s'.heap ∧ s'.os = s₁.os ∧ AllBare s'.gens) s₁ := by
  have rv := vals_ints hi
  -- an abstract heap in which at most the script stands
  have core : ∀ H : Hp, Only H → SqL K H a (ns.map V.int) → HOk P w H s₁.heap → (∀ b, H b ≠ none → b = a) → (H a ≠ none → K.lookup a = none) →
      codeAny (model P w) callerA (.call (.ref fa) ⟨[.ref a], []⟩) (fun r s' => r = .ok (.ret (.bool true)) ∧ OldK s₁.heap s'.heap ∧ s'.os = s₁.os ∧ AllBare s'.gens) s₁ := by
    intro H hO hS hok hA hK
    have other : ∀ {b : Addr}, b ≠ a → H b = none := fun {b} n => Classical.byContradiction fun z => n (hA b z)
    have ns_of : ∀ {b : Addr} {m : Str → Option Value}, s₁.heap.Ns b m → (hidT s₁.heap H).Ns b m := fun {b m} ⟨o, es, ep, e, d, r⟩ =>
      ⟨o, es, ep, hidT_get e (other fun z => by
        subst z
        rw [ha] at e
        cases e
        cases (show Data.seq vs.toArray _ = Data.dict es ep from d)), d, r⟩
    have k_of : K.In (hidT s₁.heap H) := fun b o e => hidT_get (KX b o e) (Classical.byContradiction fun z => by
      have e' := hA b z
      subst e'
      rw [hK z] at e
      cases e)
    have e0 : Env0 P w K mg (hidT s₁.heap H) callerA [] s₁ H := ⟨rfl, ⟨k_of, ns_of hns, ⟨mb, ns_of hb, hbb⟩, let ⟨mc, h1, h2⟩ := hlim; ⟨mc, ns_of h1, h2⟩⟩, fun b o e => of_hidT e, Nat.le_of_eq (hidT_size _ _), trivial,
      fun b hb => absurd (show b ∈ ([] : List Addr) from hb) (by simp), hok, .of_eq hg⟩
    refine codeAny_mono ((F _ k_of (ns_of hns)).run callerA [] s₁ H ⟨[.ref a], []⟩ [.ref a] [.ref a] _ _ rfl hr e0 (hbind s₁ (.ref a)) (.cons rfl .nil) (hsp H hS)) fun r s' h => ?_
    cases r with
    | error e => exact (hCX H e s' h).elim
    | ok fl =>
      cases fl with
      | next => exact False.elim h
      | brk => exact False.elim h
      | cont => exact False.elim h
      | ret u =>
        obtain ⟨v, H', os, bare, un, hok', r', q⟩ := h
        cases (show v = .bl true from q)
        obtain rfl : u = Value.bool true := r'
        refine ⟨rfl, OldK.of_keep fun b o e => ?_, os, bare⟩
        rcases hO b with z | ⟨ob, xs, z⟩
        · exact un.keep b o e z (by intro z; exact absurd (show b ∈ ([] : List Addr) from z) (by simp)) (by simp)
        · obtain ⟨e1, _⟩ := hok b _ z
          obtain ⟨e2, _⟩ := hok' b _ (un.frzs b ob _ z)
          rw [e] at e1
          cases e1
          exact e2
  by_cases hk : ∃ o, K.lookup a = some o
  · obtain ⟨o, hk⟩ := hk
    have e := KX a o hk
    rw [ha] at e
    cases e
    exact core (fun _ => none) (fun _ => .inl rfl) (.inr ⟨_, vs.toArray, _, hk, rfl, rfl, rfl, by rw [List.size_toArray, hi.length]; exact hl, by simpa using rv⟩) (fun b u z => by cases (show (none : Option HO) = some u from z)) (fun b z => absurd rfl z) fun z => absurd rfl z
  · have hkn : K.lookup a = none := by
      cases q : K.lookup a with
      | none => rfl
      | some o => exact absurd ⟨o, q⟩ hk
    have one : ∀ b, b ≠ a → (if b = a then some (HO.frz { cls := .type "list", data := .seq vs.toArray } (.lst (ns.map V.int))) else none) = none := fun b n => if_neg n
    refine core (fun b => if b = a then some (.frz { cls := .type "list", data := .seq vs.toArray } (.lst (ns.map V.int))) else none) (fun b => ?_) (.inl (.inr ⟨_, if_pos rfl⟩)) (fun b u z => ?_) (fun b z => Classical.byContradiction fun n => z (one b n)) fun _ => hkn
    · by_cases n : b = a
      · exact .inr ⟨_, _, if_pos n⟩
      · exact .inl (one b n)
    · by_cases n : b = a
      · cases (if_pos n).symm.trans z
        subst n
        exact ⟨ha, by rw [List.length_map]; exact hl, vs, _, rv, ha⟩
      · cases (if_neg n).symm.trans z
/-- the end of a law's walk by such a promise -/
theorem walk_ofG {l : PySem.W.OpenLaw} {n k : Nat} {q : Program} {loose : List Str} {XP : (Str → Option Value) → Heap → Prop} {YP : World → Heap → Prop} {d : DefRec} {CX : CXT} {x : Str}
    (hn : l.most = some n) (hn2 : n ≤ sizeLine) (hdf : d.params.defaults = []) (hr : Room k callerA)
    (F : ∀ (w : World) (mg : Str → Option Value) (fa : Addr) (h : Heap), YP w h → h.Ns mainGlobals mg → mg d.name = some (.ref fa) →
      ∃ (K : PySem.W.Frag) (fd : FuncData) (sp : Sp), K.In h ∧ (∀ (s : Shared) (u : Value), BindsTo s fd ⟨[u], []⟩ [(x, u)]) ∧
        (∀ (H : Hp) (a : Addr) (ns : List Int), ns.length ≤ n → SqL K H a (ns.map V.int) → sp [.ref a] H (fun v _ => v = .bl true) fun _ _ _ => False) ∧
        ∀ base : Heap, K.In base → base.Ns mainGlobals mg → FnG l.prog w K mg base CX k fa fd [x] sp)
    (hCX : ∀ (H : Hp) (s : Shared) (e : Value) (s' : Shared), CX [] H s (fun _ _ _ => False) e s' → False) :
    PySem.W.WalkO q loose XP YP l.row.toRowW d [] (fun f vs => PySem.call f vs) := by
  refine Att.attach_call hn hdf fun w s₀ s₁ mg mb fa o pm cd doc a vs ns G Y ho hd hcd hmg hobj hints hlen hg => ?_
  obtain ⟨K, fd, sp, KX, hb, hsp, hF⟩ := F w mg fa _ Y G.T.g hmg
  exact law_callG KX G.T.g G.T.b G.T.builtins G.T.nolimit hg hobj hints (Nat.le_trans hlen hn2) hr hF hb (fun H hS => hsp H a ns hlen hS) fun H e s' => hCX H s₁ e s'
end K72
open PySem PySem.W PySem.Calls PyProof.Rows
theorem PySem.Challenge.cw_rulewardens_k72_words_of_commands_holds : PySem.Challenge.rw_rulewardens_k72_words_of_commands.Holds := by
  w_on; o_law
  refine KHead.head_by (r := K72.R) (q := K72.qv) (H := K72.hk) (loose := K72.names) (d := HandSHeadRun.topDef K72.R.prog 271) (kwd := []) (E := K72.Sfin) (by kernel_rfl) (fun s => by kernel_rfl) K72.whole_run K72.look1 K72.look2 K72.obs_eq
    (by kernel_rfl) (by kernel_rfl) (by kernel_rfl) (by rfl) (by first | assumption | decide +kernel) (by decide +kernel) ⟨rfl, rfl, rfl, rfl, rfl, K72.tw_all⟩ ?hw ?hc
  case hw => w_witness2
  case hc =>
    refine K72.walk_ofG (l := PySem.Challenge.rw_rulewardens_k72_words_of_commands) (n := 63) (k := 7) (x := "script") (CX := L2.CX0) rfl (by decide) (by kernel_rfl) ⟨rfl, by decide, by decide⟩ ?F (fun _ _ _ _ z => z)
    intro w mg fa h Y G hmg0
    have X : (K72.Kf w.params).In h := Y
    have M := K72.mg_all X G
    have hmg : mg ("law" : PySem.Str) = some (.ref fa) := by
      have e : (HandSHeadRun.topDef K72.R.prog 271).name = ("law" : PySem.Str) := by kernel_rfl
      rw [← e]
      exact hmg0
    cases hmg.symm.trans M.m_law
    exact ⟨K72.Kf w.params, K72.fd_law, K72.spLaw (K72.Kf w.params), X, fun s u => .of_eq rfl, fun H a ns hl hS => ⟨a, ns, rfl, hS, hl, fun _ => rfl⟩, fun base _ _ => K72.ok_law M⟩
