import PyProof.Rows.All
import Wide.All
import OpenK.AllK
import Wide.FinOn
import KE.KStateDown
import HandS.Head0
import HandS.Head1
import HandS.Head2
import Open.Seg
import Open.Tree
import Wide.Once
import PySem.Challenge.RW_lapseeds_k08_ends_fit_and_take
import KE.DataCmp
import Lean
import HandS.ForMost
import HandS.Exc
import HandS.Defaults
import HandS.Star
import HandS.ClsMeth
import HandS.IsInst
import HandS.TupAny
import HandS.Style
import HandS.OwnEq
import HandS.HeadEnd
import HandS.HeadHook1
import HandS.HeadHook2
import HandS.HeadNt
import KE.GoesEnum
import KE.KFmtOwn
import HandS.Walk
import HandS.Codes
import HandS.Lambda
import HandS.ExcValue
import HandS.WordsExc
import HandS.Wide
import HandS.Text
import HandS.Deep
import KE.KOpsOwn
import KE.KCallOwn
import HandS.SortInts
import HandS.Comp
import HandS.Iter
import PyProof.ListMulAny
import HandS.More
import HandS.TupMul
import HandS.RaiseMore
import HandS.Zip
import KE.GoesZip
import HandS.MakeKwOnly
import HandS.Strs
import HandS.HeadHook3
import HandS.FStr
import HandS.Replace
import HandS.Dict
import HandS.ExcInit
import KE.KExcIs
import HandS.ExcOwn
import HandS.EndTab
import KE.KNestM
import PyProof.FactsAll.int_2
import PyProof.FactsAll.int_3
import KE.KSuper
import PyProof.RulesMatch
import PyProof.Rows.StrRules
import HandS.TupLe
import HandS.SetFor
import HandS.ReplaceLit
import KE.KDictZip
import PyProof.StrLawsIn
import PyProof.P3Eq
import PyProof.Rows.StrLawsPart
set_option Elab.async false
set_option linter.all false
set_option maxRecDepth 100000
/-! HX: the top's run in a few great pieces, each behind a state that is written out. -/
noncomputable section
namespace HX
open PySem PySem.W PySem.Calls PyProof.Rows HandSHeadRun

section
variable (st : SharedT → Thread → Option (SharedT × Thread)) (n0 : Nat) (ann : Option Value)
def segF : Nat → SharedT → Thread → Option (Flow × SharedT × Code × Pos)
  | 0, _, _ => none
  | m + 1, s, t => match endAt 1 t with
    | some f => some (f, s, t.code, t.pos)
    | none => match stepOk n0 ann t with
      | false => none
      | true => match st s t with
        | some (s', t') => frS s' fun s' => segF m s' t'
        | none => none
def preF : Nat → SharedT → Thread → Option (SharedT × Thread)
  | 0, s, t => some (s, t)
  | m + 1, s, t => match through t with
    | true => none
    | false => match stepOk n0 ann t with
      | false => none
      | true => match st s t with
        | some (s', t') => frS s' fun s' => preF m s' t'
        | none => none
end
theorem segF_ok {tb : String → Option Builtin} {p : Program} {w : World} {n0 : Nat} {ann : Option Value} : ∀ {m : Nat} {s s' : SharedT} {t : Thread} {f : Flow} {c : Code} {q : Pos}, segF (stepT (denote tb) p w) n0 ann m s t = some (f, s', c, q) → segRun tb p w n0 ann 1 m s.abs t = some (f, s'.abs, c, q)
  | 0, _, _, _, _, _, _, h => by cases h
  | m + 1, s, s', t, f, c, q, h => by
    unfold segF at h
    unfold segRun
    cases he : endAt 1 t with
    | some x => rw [he] at h; cases h; rfl
    | none =>
      rw [he] at h
      cases hk : stepOk n0 ann t with
      | false => rw [hk] at h; cases h
      | true =>
        rw [hk] at h
        cases hs : stepT (denote tb) p w s t with
        | none => rw [hs] at h; cases h
        | some r =>
          obtain ⟨s2, t2⟩ := r
          rw [hs] at h
          have h3 : (frS s2 fun s' => segF (stepT (denote tb) p w) n0 ann m s' t2) = some (f, s', c, q) := h
          rw [frS_eq] at h3
          rw [stepT_spec hs]
          exact segF_ok h3
theorem preF_ok {tb : String → Option Builtin} {p : Program} {w : World} {n0 : Nat} {ann : Option Value} : ∀ {m : Nat} {s s' : SharedT} {t t' : Thread}, preF (stepT (denote tb) p w) n0 ann m s t = some (s', t') → topGo tb p w n0 ann m s.abs t = some (s'.abs, t')
  | 0, _, _, _, _, h => by cases h; rfl
  | m + 1, s, s', t, t', h => by
    unfold preF at h
    unfold topGo
    cases ht : through t with
    | true => rw [ht] at h; cases h
    | false =>
      rw [ht] at h
      cases hk : stepOk n0 ann t with
      | false => rw [hk] at h; cases h
      | true =>
        rw [hk] at h
        cases hs : stepT (denote tb) p w s t with
        | none => rw [hs] at h; cases h
        | some r =>
          obtain ⟨s2, t2⟩ := r
          rw [hs] at h
          have h3 : (frS s2 fun s' => preF (stepT (denote tb) p w) n0 ann m s' t2) = some (s', t') := h
          rw [frS_eq] at h3
          show (match step (denote tb) p w s.abs t with
            | .go s' t' => topGo tb p w n0 ann m s' t'
            | .halt _ _ => none) = some (s'.abs, t')
          rw [stepT_spec hs]
          exact preF_ok h3
/-- execs by the library's twin -/
def execsQ : List Stmt → Env → Sem Flow := PySem.W.Fast.tw12563942051412417395
theorem execsQ_eq : @execs = execsQ := PySem.W.Fast.te12563942051412417395
def startQ : List Stmt → Env → Sem Unit := PySem.W.Fast.tw1066825118222455980
theorem startQ_eq : @blockStart = startQ := PySem.W.Fast.te1066825118222455980
abbrev B1 : List Frame := [topFrame ⟨0, 0, 0, 0⟩]
def pcs (l : List Stmt) (env : Env) (c : Code) (p : Pos) : Thread := ⟨(execsQ l env).wrap doneF deadEnd id id, c, p, B1⟩
def blk (b : List Stmt) (env : Env) (c : Code) (p : Pos) : Thread := ⟨(startQ b env).wrap (fun _ => doneF .next) deadEnd id id, c, p, B1⟩
def ANN : Option Value := some (.ref 6)
theorem ann0_eq (w : World) : bootAnn w = ANN := by
  show (boot_heap w.params).nsMap mainGlobals "__annotations__" = ANN
  kernel_rfl
theorem size0 (w : World) : (boot_heap w.params).objs.size = 11 := by kernel_rfl
def bootTree (P : Params) : PySem.W.BT := match putAll (boot_heap P).objs.toList .nil 0 with
  | some (t, _) => t
  | none => .nil
theorem bootTree_ok (P : Params) : putAll (boot_heap P).objs.toList .nil 0 = some (bootTree P, 11) := by kernel_rfl
def S0 (w : World) (os : OsState) : SharedT := ⟨bootTree w.params, 11, (boot_heap w.params).life, #[], boot_drawn, boot_toks, os⟩
theorem S0_abs (w : World) (os : OsState) : (S0 w os).abs = ⟨boot_heap w.params, #[], boot_drawn, boot_toks, os⟩ := by
  show (⟨absHeap (bootTree w.params) 11 (boot_heap w.params).life, #[], boot_drawn, boot_toks, os⟩ : Shared) = _
  rw [putAll_heap (bootTree_ok w.params)]

/-- one piece -/
def Pc (p : Program) (w : World) (m : Nat) (l : List Stmt) (env : Env) (c : Code) (a : SharedT) (q : Pos) (b : SharedT) (q' : Pos) : Prop :=
  segF (stepQ (denQ tabQ) p w) 11 ANN m a (pcs l env c q) = some (.next, b, c, q')
section
variable {p : Program} {w : World}
theorem pc_run {m : Nat} {l : List Stmt} {env : Env} {c : Code} {a b : SharedT} {q q' : Pos} (h : Pc p w m l env c a q b q') :
    segRun treeTable p w 11 ANN 1 m a.abs (piecesOf l env c q B1) = some (.next, b.abs, c, q') := by
  unfold Pc pcs at h
  rw [← stepQ_eq, ← denQ_eq, ← tabQ_eq, ← execsQ_eq] at h
  exact segF_ok h
theorem pc_cons {m N : Nat} {l rest : List Stmt} {env : Env} {c : Code} {a b : SharedT} {r : Shared} {q q' : Pos} (h : Pc p w m l env c a q b q')
    (k : topRun treeTable p w 11 ANN N b.abs (restOf rest env c q' B1) = some r) : topRun treeTable p w 11 ANN (m + N) a.abs (restOf (l ++ rest) env c q B1) = some r :=
  piece_app (pc_run h) k
theorem pc_nil {env : Env} {c : Code} {s : Shared} {q : Pos} : topRun treeTable p w 11 ANN 3 s (restOf [] env c q B1) = some s := by
  obtain ⟨heap, gens, drawn, toks, os⟩ := s
  exact piece_nil rfl
theorem pc_first {m N : Nat} {b : List Stmt} {env : Env} {a : SharedT} {r : Shared} {q q' : Pos} {os : OsState}
    (h : preF (stepQ (denQ tabQ) p w) 11 ANN m (S0 w os) (topStub p) = some (a, ⟨denQ tabQ (.body b env), .body b env, q, B1⟩))
    (hb : segF (stepQ (denQ tabQ) p w) 11 ANN 50 a (blk b env (.body b env) q) = some (.next, a, .body b env, q'))
    (k : topRun treeTable p w 11 ANN N a.abs (restOf b env (.body b env) q' B1) = some r) :
    topRun treeTable p w (boot_heap w.params).objs.size (bootAnn w) (m + (50 + N)) ⟨boot_heap w.params, #[], boot_drawn, boot_toks, os⟩ (topStub p) = some r := by
  rw [size0, ann0_eq w, ← S0_abs]
  rw [← stepQ_eq, ← denQ_eq, ← tabQ_eq] at h hb
  unfold blk at hb
  rw [← startQ_eq] at hb
  exact go_top (preF_ok h) (piece_block (segF_ok hb) k)
end
/-- the law from the run and from the looks, each a theorem of its own -/
theorem left_seg {p q : Program} {loose : List Str} {Xt : Shared → Bool} {α : Type} {Yf : Shared → α} {Ya : World → α} {N M : Nat} {F : World → OsState → SharedT}
    (e : opening p = plainProg p.main.scope.names) (hN : Nat.ble 600 N = true) (f : ∀ s, fenceModules? p s = some s) (le : Nat.ble M N = true)
    (run : ∀ (w : World) (os : OsState), topRun treeTable p w (boot_heap w.params).objs.size (bootAnn w) M ⟨boot_heap w.params, #[], boot_drawn, boot_toks, os⟩ (topStub p) = some (F w os).abs)
    (l1 : ∀ (w : World) (os : OsState), looksF p (boot_heap w.params) (F w os).abs = true)
    (l2 : ∀ (w : World) (os : OsState), openSeen q loose (importedModules p.main.body) Xt true (F w os).abs = openGood q loose)
    (l3 : ∀ (w : World) (os : OsState), Yf (F w os).abs = Ya w) :
    LeftO p q loose Xt Yf Ya N true := fun w => by
  obtain ⟨⟨h, gs, d, k, os⟩, a, a'⟩ := Option.map_eq_some_iff.mp (boot_open e hN f w)
  obtain ⟨rfl, rfl, rfl, rfl⟩ : h = boot_heap w.params ∧ gs = Array.mk [] ∧ d = boot_drawn ∧ k = boot_toks := by simpa using a'
  have r := topRun_mono (N - M) _ _ _ _ (run w os)
  rw [show M + (N - M) = N by have := Nat.le_of_ble_eq_true le; omega] at r
  have l1' : (staticsOk (importedModules p.main.body) (boot_heap w.params) (F w os).abs.heap && namesBound p (F w os).abs.heap && gensDone (F w os).abs && laidKept (boot_heap w.params) (F w os).abs.heap) = true := l1 w os
  have t : topFrom treeTable p w N ⟨boot_heap w.params, Array.mk [], boot_drawn, boot_toks, os⟩ = some (F w os).abs := by
    unfold topFrom
    dsimp only
    rw [boot_ns]
    show (topRun treeTable p w (boot_heap w.params).objs.size (bootAnn w) N ⟨boot_heap w.params, #[], boot_drawn, boot_toks, os⟩ (topStub p)).bind _ = _
    rw [r]
    show (match staticsOk (importedModules p.main.body) (boot_heap w.params) (F w os).abs.heap && namesBound p (F w os).abs.heap && gensDone (F w os).abs && laidKept (boot_heap w.params) (F w os).abs.heap with | true => some (F w os).abs | false => none) = _
    rw [l1']
  unfold openEnds
  rw [a]
  show (topFrom treeTable p w N _).map _ = _
  rw [t]
  exact congrArg some (Prod.ext (l2 w os) (l3 w os))
theorem head_seg {r : OpenRow} {q : Program} {H : Hook} {ob : SharedT → H.α} {M : Nat} {loose : List PySem.Str} {d : DefRec} {kwd : List (PySem.Str × PySem.Expr)} {F : World → OsState → SharedT} (ho : ∀ s : SharedT, ob s = H.obs s.abs)
    (e : opening r.prog = plainProg r.prog.main.scope.names) (f : ∀ s, fenceModules? r.prog s = some s)
    (run : ∀ (w : World) (os : OsState), topRun treeTable r.prog w (boot_heap w.params).objs.size (bootAnn w) M ⟨boot_heap w.params, #[], boot_drawn, boot_toks, os⟩ (topStub r.prog) = some (F w os).abs)
    (l1 : ∀ (w : World) (os : OsState), looksF r.prog (boot_heap w.params) (F w os).abs = true)
    (l2 : ∀ (w : World) (os : OsState), seenQ q loose (importedModules r.prog.main.body) (fun s => xlAt q [] s && recOk r.toRowW.records s) (F w os).abs = openGood q loose)
    (l3 : ∀ (w : World) (os : OsState), ob (F w os) = H.val w)
    (hdef : defOf q r.name = some (d, kwd)) (hp : r.prog.theDef r.name = some (d.params, d.body, d.scope)) (hk : kwWritten? d.params.kwonlyargs d.params.kw_defaults = some kwd)
    (hwr : (!r.writes || r.records.isEmpty) = true) (k1 : r.wellSaid = true) (ok : (chainsOk q && opensWell r.prog && (frees r.toRowW && r.within.isEmpty)) = true) (hb : r.prog.bare) (hw : r.toRowW.promised)
    (call : WalkO q loose (XL q []) H.says r.toRowW d kwd fun f vs => PySem.call f vs) : r.Holds := by
  have left : LeftO r.prog q loose (fun s => xlAt q [] s && recOk r.toRowW.records s) H.obs H.val (M + 600) true :=
    left_seg (M := M) e (Nat.ble_eq_true_of_le (by omega)) f (Nat.ble_eq_true_of_le (by omega)) run l1 (fun w os => by
      rw [seenQ_eq]
      exact l2 w os) fun w os => by
      rw [← ho]
      exact l3 w os
  exact holds_open (r := r) (q := q) (loose := loose) (XP := XL q []) (YP := H.says) (d := d) (kwd := kwd) left H.of H.keeps (fun s z => xl_of s (Bool.and_eq_true_iff.mp z).1) XL.keeps hdef hp hk (fun s z => recFacts_of (Bool.and_eq_true_iff.mp z).2) hwr k1 ok hb hw call

/-! ### short names for what is written out -/
abbrev s (x : Str) (n : Nat) : Value := .str x n
abbrev r (n : Nat) : Value := .ref n
abbrev i (k : Int) : Value := .int k 0
abbrev ty (x : String) : Value := .type x
abbrev bi (x : String) : Value := .builtin x
abbrev tu (l : List Value) : Obj := ⟨.type "tuple", none, .seq l.toArray 0, #[]⟩
abbrev fi (l : List Value) : Obj := ⟨.none, none, .fields l.toArray, #[]⟩
abbrev fo (x : String) (l : List Value) : Obj := ⟨.type x, none, .fields l.toArray, #[]⟩
abbrev di (l : List DictEntry) (n : Nat) : Obj := ⟨.type "dict", none, .dict l.toArray n, #[]⟩
abbrev en (P : Params) (x : Str) (n : Nat) (v : Value) : DictEntry := ⟨PyData.keyHash P x, .str x n, v⟩
abbrev lf (o : Obj) : PySem.W.BT := .node o .nil .nil
abbrev nd (o : Obj) (l r : PySem.W.BT) : PySem.W.BT := .node o l r
def fA : Stmt → Arguments
  | .FunctionDef _ a _ _ _ _ _ _ _ _ => a
  | _ => ⟨[], [], none, [], [], none, []⟩
def fB : Stmt → List Stmt
  | .FunctionDef _ _ b _ _ _ _ _ _ _ => b
  | _ => []
def fS : Stmt → Scope
  | .FunctionDef _ _ _ _ _ _ sc _ _ _ => sc
  | _ => ⟨.function, [], false, false, []⟩
def fC : Stmt → List Stmt
  | .ClassDef (body := b) .. => b
  | _ => []
def stD : Stmt := .Pass ⟨0, 0, 0, 0⟩
def stA (l : List Stmt) (i : Nat) : Stmt := (l[i]?).getD stD
abbrev fu (c : Value) (nm qn : Str) (st : Stmt) (gl : Addr) (cl : List (Str × Addr)) (df kd dc md : Value) (an : Option Addr) (cd ct : Value) (b : Addr) : Obj :=
  ⟨c, none, .func ⟨nm, qn, fA st, .stmts (fB st), fS st, gl, cl, df, kd, dc, md, an, cd, ct, b⟩, #[]⟩
def grp (l : List Stmt) (a b : Nat) : List Stmt := (l.drop a).take b
end HX
set_option Elab.async false
set_option linter.all false
set_option maxRecDepth 100000
set_option maxHeartbeats 0
namespace K08
open PySem PySem.W PySem.Calls PyProof.Rows
/-- the look at the law costs most memory: it stands first in the joined text -/
theorem pre (h : PySem.Challenge.rw_lapseeds_k08_ends_fit_and_take.row.wellSaid = true → PySem.Challenge.rw_lapseeds_k08_ends_fit_and_take.row.Holds) : PySem.Challenge.rw_lapseeds_k08_ends_fit_and_take.Holds := by
  w_on; o_law
  exact h ‹_›
end K08
set_option Elab.async false
set_option linter.all false
set_option maxRecDepth 100000
set_option maxHeartbeats 4000000
/-! My own small layer over HandS: a head's Hook by any Bool; defs called where no repr is running; own operators; data by repr and order. -/
namespace ZH
open PySem PySem.W L2
def obsZ (chk : Frag → Bool) (fn : List He5.DefA) (K : Frag) : He.AlD := (chk K && fn.all fun d => d.ok K, fn.map fun d => He5.fnA K (d.at_ K))
def SaysZ (chk : Frag → Bool) (fn : List He5.DefA) (K : Frag) : Prop := obsZ chk fn K = He5.valA fn
section
variable {chk : Frag → Bool} {fn : List He5.DefA} {K : Frag}
theorem SaysZ.two (c : SaysZ chk fn K) : chk K = true ∧ (fn.all fun d => d.ok K) = true := He.ba (show (chk K && fn.all fun d => d.ok K) = true from congrArg (fun z : He.AlD => z.1) c)
theorem SaysZ.fact (c : SaysZ chk fn K) : chk K = true := c.two.1
theorem SaysZ.def_ (c : SaysZ chk fn K) (i : Nat) {d : He5.DefA} (h : fn[i]? = some d := by rfl) : ∃ fd, L2.FunD K d.name d.qual d.params d.body d.scope (d.dvs K) (d.kws K) (d.at_ K) fd := by
  have e := congrArg (fun z : He.AlD => z.2[i]?) c
  have e' : (fn.map fun d => He5.fnA K (d.at_ K))[i]? = (fn.map He5.DefA.val)[i]? := e
  rw [List.getElem?_map, List.getElem?_map, h] at e'
  exact He5.DefA.funD (Option.some.inj e') (List.all_eq_true.mp c.two.2 d (List.mem_of_getElem? h))
end
end ZH
namespace ZL
open PySem PySem.Spec PyProof.Rows L2
/-! ### defs that are called where no repr is running -/
structure FnG (P : Program) (w : World) (K : PySem.W.Frag) (mg : Str → Option Value) (base : Heap) (CX : CXT) (k : Nat) (f : Addr) (fd : FuncData) (ps : List Str) (sp : Sp) : Prop where
  len : ∀ vs H Q E, sp vs H Q E → vs.length = ps.length
  run : ∀ (A : Around) (outer : List Env) (s : Shared) (H : Hp) (args : Args) (us : List Value) (vs : List V) (Q : VK) (E : XK), A.guards = some [] → Room k A → Env0 P w K mg base A outer s H → BindsTo s fd args (ps.zip us) → Vals vs us →
    sp vs H Q E → codeAny (model P w) A (.call (.ref f) args) (CR CX outer P w H s Q E) s
section
variable {P : Program} {w : World} {K : PySem.W.Frag} {mg : Str → Option Value} {base : Heap} {x qual : Str} {params : Arguments} {body : List Stmt} {scope : Scope} {dvs : List V} {kws : List (Str × V)} {f : Addr} {fd : FuncData} {CX : CXT} {N ps : List Str} {j k : Nat} {sp : Sp}
theorem FnG.of (F : FnOk P w K mg base CX k f fd ps sp) : FnG P w K mg base CX k f fd ps sp := ⟨F.len, fun A outer s H args us vs Q E _ hr e0 hb r h => F.run A outer s H args us vs Q E hr e0 hb r h⟩
theorem FnG.mono (F : FnG P w K mg base CX j f fd ps sp) (h : j ≤ k) : FnG P w K mg base CX k f fd ps sp := ⟨F.len, fun A outer s H args us vs Q E hg hr => F.run A outer s H args us vs Q E hg (hr.mono h)⟩
/-- a def's promise by its body, where no repr is running -/
theorem okG (F : FunD K x qual params body scope dvs kws f fd) (S : FnScope N ps scope) (len : ∀ vs H Q E, sp vs H Q E → vs.length = ps.length)
    (hbody : ∀ (cdv : Value) (A : Around) (outer : List Env) (s : Shared) (H : Hp) (vs : List V) (Q : VK) (E : XK), A.guards = some [] → Room k (A.deeper (envOfC qual scope s.heap.objs.size f cdv)) → sp vs H Q E →
      ∃ t, PSs (cxOf CX P w K mg base N qual scope f cdv A outer s H E) body t ∧ t { nx := fun _ H' => Q .non H', rt := Q } (start N vs) H) : FnG P w K mg base CX (k + 1) f fd ps sp := by
  obtain ⟨oc, od, dV, kV, doc, pm, an, cdv, ct, osl, rfl, lk, hcd, -, -⟩ := F.ex
  refine ⟨len, fun A outer s H args us vs Q E hg hr e0 hb r h => ?_⟩
  refine StX.run_bnd lk hcd S hr e0 (G := fun xs H2 => xs = vs ∧ H2 = H) (fun A' Ex Q' q => hb _ _ _ _ (q s H vs us e0 Un.refl rfl (fun _ _ z => z) r (len _ _ _ _ h) ⟨rfl, rfl⟩)) fun s2 H2 xs e hr' => ?_
  rw [e.1, e.2]
  exact hbody cdv A outer s2 H vs Q E hg hr' h
end
section
variable {X : Cx} {CX : CXT} {k : Nat} {f C : Addr} {fd : FuncData} {ps : List Str} {sp : Sp} {dvs : List V} {ds : List Value} {E : XK} {x m : Str} {p pos apos : Pos} {e o : Expr} {es : List Expr} {ta : TE} {t : TA}
end
/-! ### a callee run from anywhere below a body -/
section
variable {X : Cx} {CX : CXT} {k : Nat} {f C g : Addr} {sp : Sp} {E : XK} {pins : List (Addr × Obj)} {σ : L2.St} {H : Hp} {s : Shared}
theorem run_at {A : Around} {Q : VK} {us : List Value} {vs : List V} (F : FnR X.prog X.w X.K X.mg X.base CX k f sp) (hr : Room k A) (hf : A.frames = X.A.frames) (hx : Passes CX X E) (I : Inv X pins σ H s) (r : Vals vs us) (h : sp vs H Q E) :
    wpAny (model X.prog X.w) A (call (.ref f) us) (EP X pins σ Q) X.xe s := by
  have e0 : Env0 X.prog X.w X.K X.mg X.base A X.stack s H := { I.env0 with frames := hf.trans I.env0.frames }
  refine wpAny_call (codeAny_mono (F A X.stack s H us vs Q E hr e0 r h) fun z s' hq => ?_)
  match z, hq with
  | .error e, hq => exact hx pins σ H s e s' I hq
  | .ok (.ret u), hq => exact I.after hq
  | .ok .next, hq => exact False.elim hq
  | .ok .brk, hq => exact False.elim hq
  | .ok .cont, hq => exact False.elim hq
theorem inst_at {a dx : Addr} {fs : List (Str × V)} (I : Inv X pins σ H s) (h : H a = some (.ins C dx fs)) : ∃ od, PySem.W.InstAt s.heap a (PySem.W.instObj C dx) C (some od) := by
  obtain ⟨mA, O, -⟩ := ins_get I.hok h
  obtain ⟨od, J, -⟩ := O.look
  exact ⟨od, J⟩
/-- a special method of a class of the text -/
structure Own (K : PySem.W.Frag) (C : Addr) (m : Str) (f : Addr) : Prop where
  at_ : PySem.W.findIn K (.ref C) m = some (some (.ref f))
  fn : PySem.W.isFn K (.ref f) = true
theorem Own.of {K : PySem.W.Frag} {m : Str} (h : Meth K C m f) : Own K C m f := ⟨h.at_, h.fn⟩
/-! ### own operators -/
end
/-! ### order of data -/
section
open PySem.W (alike dataLt lt_data le_data)
variable {X : Cx}
/-! ### repr of data -/
def rReprD (K : PySem.W.Frag) : List V → Hp → VK → Prop := fun xs H Q => ∃ (a : Addr) (d : PyData), xs = [.ref a] ∧ Dp K H (.ref a) d ∧ d.showable = true ∧ d.hasDict = false ∧ d.depth ≤ 60 ∧ d.shown.length ≤ sizeLine ∧ Q (.str d.shown) H
theorem call_reprD (hg : X.A.guards = some []) (hu : X.A.units + 64 < cLine) : CallR X (.builtin "repr") (rReprD X.K) := by
  rintro pins s σ H xs us Q I r ⟨a, d, rfl, hd, hs, nd, dp, hz, q⟩
  match us, r with
  | [u], .cons r1 .nil =>
    cases r1
    obtain ⟨as, rd⟩ := Dp.reads I d (.ref a) (.ref a) hd rfl
    refine repr_of_reads' rd hs (fun z => ?_) hg (by omega) (fun _ _ z => z) (fun h' u tk hk => ⟨.str d.shown, H, I.kept hk, ⟨u, rfl⟩, q⟩) hz
    rw [nd] at z
    cases z
end
end ZL
set_option Elab.async false
set_option linter.all false
set_option maxRecDepth 100000
set_option maxHeartbeats 4000000
namespace ZL
open PySem PySem.Spec PyProof.Rows L2
/-! ### != where the class has an own == alone -/
structure OwnNe (K : PySem.W.Frag) (C : Addr) : Prop where
  ne : PySem.W.findIn K (.ref C) "__ne__" = some (some (.builtin "object.__ne__"))
  ob : PySem.W.mroIn K C (.type "object") = some true
section
variable {prog : Program} {w : World} {A : Around} {E : Value → Shared → Prop} {s : Shared} {K : PySem.W.Frag} {x C f : Addr} {ox : Obj} {od : Option Obj} {b : Value}
theorem ne_obj {Q : Value → Shared → Prop} (N : OwnNe K C) (o : Own K C "__eq__" f) (hu : A.in1.units < cLine) (X : K.In s.heap) (I : PySem.W.InstAt s.heap x ox C od)
    (h : wpAny (model prog w) A.in1 (call (.ref f) [.ref x, b]) (fun v s' => ∃ r, v = .bool r ∧ Q (.bool (!r)) s') E s) : wpAny (model prog w) A (call (.builtin "object.__ne__") [.ref x, b]) Q E s := by
  refine wpAny_call (codeAny_call_builtin PySem.F.cmp_object.ne.plain PySem.F.cmpEntry_ne (PySem.W.check_slot (i := "object.__ne__") (owner := "object") (n := "__ne__") PySem.F.cmpKind_ne PySem.F.cmpSplit_ne (I.type.andThen (PySem.W.looks_mroIn X N.ob)) (PySem.F.cmpArgs_ne _ _) ?_))
  unfold Builtin.«object.__ne__»
  refine wpAny_bind (m := slotArgs "__ne__" 1 _) (wpAny_pure ?_)
  refine wpAny_bind (m := cRoomFor _ _) (wpAny_cRoomFor hu ?_)
  refine wpAny_bind (m := callSpecialIfBound? (.ref x) (Str.ofString "__eq__") [b]) (PySem.W.ifBound_K X I o.at_ o.fn (thn h fun v s' z => ?_))
  obtain ⟨r, rfl, q⟩ := z
  exact wpAny_bind (m := truthy (.bool r)) (wpAny_truthy_bool (wpAny_pure q))
theorem ifBound_B {M : Model} {name : Str} {id : String} {args : List Value} {Q : Option Value → Shared → Prop} (X : K.In s.heap) (I : PySem.W.InstAt s.heap x ox C od) (hs : PySem.W.findIn K (.ref C) name = some (some (.builtin id)))
    (hb : ∀ self, bindSpecial (.builtin id) self = pure (.builtin id, [self])) (h : wpAny M A (call (.builtin id) (.ref x :: args)) (fun v => Q (some v)) E s) : wpAny M A (callSpecialIfBound? (.ref x) name args) Q E s := by
  have fin : wpAny M A (call (.builtin id) ([.ref x] ++ args) >>= fun v => pure (some v)) Q E s := wpAny_bind (thn h fun _ _ z => wpAny_pure z)
  simp only [callSpecialIfBound?, bindSpecialIfBound?]
  refine wpAny_holding (wpAny_bind (wpAny_bind (wpAny_bind (I.type.here ((PySem.W.looks_findIn X hs).here ?_)))))
  refine wpAny_bind (wpAny_askSetting (wpAny_ite ?_))
  split
  · exact wpAny_bind ((PySem.W.Looks.of_pure (hb _)).here (wpAny_pure (by exact fin)))
  · exact wpAny_tryCatch (wpAny_bind ((PySem.W.Looks.of_pure (hb _)).here (wpAny_pure (by exact fin))))
theorem ne_rc {tb : Value} {Q : Value → Shared → Prop} (N : OwnNe K C) (o : Own K C "__eq__" f) (hu : A.units + 1 < cLine) (X : K.In s.heap) (I : PySem.W.InstAt s.heap x ox C od) (hb : PySem.W.Looks (model prog w) s.heap (typeOf b) tb) (hn : PySem.W.notFirst K C tb = true)
    (h : wpAny (model prog w) A.in1 (call (.ref f) [.ref x, b]) (fun v s' => ∃ r, v = .bool r ∧ Q (.bool (!r)) s') E s) : wpAny (model prog w) A (richCompare .NotEq (.ref x) b) Q E s := by
  have one : wpAny (model prog w) A (tryCompare (.ref x) (cmpInfo .NotEq).2.1 b) (fun r s' => ∃ v, r = some v ∧ Q v s') E s := by
    unfold tryCompare
    refine wpAny_bind (ifBound_B X I N.ne PySem.F.cmp_object.ne.bind (ne_obj N o (by show A.units + 1 < cLine; exact hu) X I (thn h fun v s' z => ?_)))
    obtain ⟨r, rfl, q⟩ := z
    exact ⟨r, rfl, wpAny_pure ⟨_, rfl, q⟩⟩
  have fin : ∀ {k : Option Value → Sem Value}, (∀ v, k (some v) = pure v) → wpAny (model prog w) A (tryCompare (.ref x) (cmpInfo .NotEq).2.1 b >>= k) Q E s := fun {k} hk => wpAny_bind (thn one fun r s' z => by
    obtain ⟨v, rfl, q⟩ := z
    rw [hk]
    exact wpAny_pure q)
  unfold richCompare
  simp only [oneThing_ref]
  refine wpAny_holding (wpAny_bind (wpAny_cRoomFor (by omega) ?_))
  refine wpAny_bind (I.type.here (wpAny_bind (hb.here ?_)))
  split
  · rename_i q
    have e : PySem.W.subIn K tb (.ref C) = some false := by
      rcases Bool.or_eq_true_iff.mp hn with e | e
      · rw [beq_iff_eq.mp e] at q; simp at q
      · exact beq_iff_eq.mp e
    refine wpAny_bind ((PySem.W.looks_subIn X e).here ?_)
    simp only [Bool.false_eq_true, if_false]
    refine wpAny_bind (thn one fun r s' z => ?_)
    obtain ⟨v, rfl, hq⟩ := z
    exact wpAny_pure hq
  · refine wpAny_bind (wpAny_pure ?_)
    simp only [Bool.false_eq_true, if_false]
    refine wpAny_bind (thn one fun r s' z => ?_)
    obtain ⟨v, rfl, hq⟩ := z
    exact wpAny_pure hq
end
section
variable {X : Cx} {CX : CXT} {k : Nat} {f C g : Addr} {sp : Sp} {E : XK}
/-! ### x[i] by an own __getitem__ -/
end
/-! ### a op b op c op d -/
section
variable {X : Cx} {a b c d : Expr} {ta tb tc td : TE} {pos : Pos}
end
end ZL
set_option Elab.async false
set_option linter.all false
set_option maxRecDepth 100000
set_option maxHeartbeats 4000000
namespace ZL
open PySem PySem.Spec PyProof.Rows L2
/-! ### x[i] by an own __getitem__ -/
section
variable {X : Cx} {CX : CXT} {k : Nat} {f C g : Addr} {sp : Sp} {E : XK} {a b : Expr} {ta tb : TE} {pos : Pos}
end
/-! ### t[::-1] of a tuple -/
section
variable {prog : Program} {w : World} {A : Around} {E : Value → Shared → Prop} {s : Shared}
end
section
variable {X : Cx}
end
/-! ### enumerate(t) of a tuple -/
end ZL
set_option Elab.async false
set_option linter.all false
set_option maxRecDepth 100000
set_option maxHeartbeats 4000000
namespace ZL
open PySem PySem.Spec PyProof.Rows L2
/-! ### defs by positional promises -/
def FnRG (P : Program) (w : World) (K : PySem.W.Frag) (mg : Str → Option Value) (base : Heap) (CX : CXT) (k : Nat) (f : Addr) (sp : Sp) : Prop :=
  ∀ (A : Around) (outer : List Env) (s : Shared) (H : Hp) (us : List Value) (vs : List V) (Q : VK) (E : XK), A.guards = some [] → Room k A → Env0 P w K mg base A outer s H → Vals vs us → sp vs H Q E →
    codeAny (model P w) A (.call (.ref f) ⟨us, []⟩) (CR CX outer P w H s Q E) s
section
variable {P : Program} {w : World} {K : PySem.W.Frag} {mg : Str → Option Value} {base : Heap} {x qual : Str} {st : Stmt} {kws : List (Str × V)} {f : Addr} {fd : FuncData} {N ps : List Str} {k : Nat} {sp : Sp} {CX : CXT}
theorem FnRG.of (F : FnR P w K mg base CX k f sp) : FnRG P w K mg base CX k f sp := fun A outer s H us vs Q E _ hr e0 r h => F A outer s H us vs Q E hr e0 r h
end
section
variable {X : Cx} {CX : CXT} {k : Nat} {f C : Addr} {sp : Sp} {E : XK} {x m : Str} {p pos apos : Pos} {e o : Expr} {es : List Expr} {ta : TE} {t : TA}
def tCallR (sp : Sp) (E : XK) (t : TA) : TE := fun σ H Q => t σ H fun vs H1 => sp vs H1 Q E
theorem pe_callR (F : FnR X.prog X.w X.K X.mg X.base CX k f sp) (hr : Room k X.A) (hg : Gl X x) (hm : X.mg x = some (.ref f)) (hk : PySem.W.keepIn X.K (.ref f) = true) (hx : Passes CX X E)
    (ha : PA X (e :: es) t) (hdb : (x == ("__debug__" : Str)) = false := by decide) (he : starEach (e :: es) X.env = (false, eval e X.env) :: starEach es X.env := by rfl) (hpl : (backTo pos (starEach es X.env)).any (·.1) = false := by rfl) :
    PE X (.Call (.Name x p) (e :: es) [] pos) (tCallR sp E t) :=
  ⟨fun pins s σ H Q I h => wpAny_Call_Name_kw (ld_glob I hg hm (PySem.W.callWith_K (h₀ := X.base) I.ok.mod.kin hk (thn (ha.run pos pins s σ H _ I h) fun us s1 z => by
    obtain ⟨vs, H1, I1, r, q⟩ := z
    exact ⟨I1.kIn, wpAny_call (run_fnR F hr hx I1 r q)⟩) he hpl) hdb)⟩
theorem pe_callRG (F : FnRG X.prog X.w X.K X.mg X.base CX k f sp) (hgd : X.A.guards = some []) (hr : Room k X.A) (hg : Gl X x) (hm : X.mg x = some (.ref f)) (hk : PySem.W.keepIn X.K (.ref f) = true) (hx : Passes CX X E)
    (ha : PA X (e :: es) t) (hdb : (x == ("__debug__" : Str)) = false := by decide) (he : starEach (e :: es) X.env = (false, eval e X.env) :: starEach es X.env := by rfl) (hpl : (backTo pos (starEach es X.env)).any (·.1) = false := by rfl) :
    PE X (.Call (.Name x p) (e :: es) [] pos) (tCallR sp E t) :=
  ⟨fun pins s σ H Q I h => wpAny_Call_Name_kw (ld_glob I hg hm (PySem.W.callWith_K (h₀ := X.base) I.ok.mod.kin hk (thn (ha.run pos pins s σ H _ I h) fun us s1 z => by
    obtain ⟨vs, H1, I1, r, q⟩ := z
    refine ⟨I1.kIn, wpAny_call (codeAny_mono (F X.A X.stack s1 H1 us vs Q E hgd hr I1.env0 r q) fun z s' hq => ?_)⟩
    match z, hq with
    | .error e, hq => exact hx pins σ H1 s1 e s' I1 hq
    | .ok (.ret u), hq => exact I1.after hq
    | .ok .next, hq => exact False.elim hq
    | .ok .brk, hq => exact False.elim hq
    | .ok .cont, hq => exact False.elim hq) he hpl) hdb)⟩
end
/-! ### small words -/
/-- what a comprehension's element must leave: the list so far stands, what holds of it goes on -/
def LcN (D : Addr) (Pv : Nat → List V → Hp → Prop) (i : Nat) (y : V) (H4 : Hp) : Prop := ∃ acc, H4 D = some (.lst acc) ∧ acc.length < sizeLine ∧ ∃ ys, ys.length = i + 1 ∧ upd H4 D (.lst (acc ++ [y])) D = some (.lst ys) ∧ Pv (i + 1) ys (upd H4 D (.lst (acc ++ [y])))
theorem LcN.mk {D : Addr} {Pv : Nat → List V → Hp → Prop} {i : Nat} {ys : List V} {y : V} {H4 : Hp} (hl : ys.length = i) (hi : i < 1000) (hD : H4 D = some (.lst ys)) (h : Pv (i + 1) (ys ++ [y]) (upd H4 D (.lst (ys ++ [y])))) : LcN D Pv i y H4 :=
  ⟨ys, hD, small1000 (by omega), ys ++ [y], by rw [List.length_append, hl]; rfl, upd_same, h⟩
end ZL
set_option Elab.async false
set_option linter.all false
set_option maxRecDepth 100000
set_option maxHeartbeats 4000000
/-! The value layer: what a def computes, told by plain values. -/
namespace PV
open PySem PySem.Spec PyProof.Rows L2 ZL
/-- a plain value; lst, obj: lists and instances that are never written again; loc: one that may be -/
inductive D where
  | non | bl (b : Bool) | int (i : Int) | str (x : Str)
  | tup (xs : List D) | lst (xs : List D) | obj (c : String) (fs : List (String × D))
  | loc (n : Nat) | cls (c : String) | fnc (f : String) | ty (n : String)
  | src (xs : List D) | dic0 | hob (o : HO) | exc (c : String) (fs : List (String × D))
/-- what may be written -/
inductive Cell where
  | lst (xs : List D) | ins (c : String) (fs : List (String × D)) | dead | dic (es : List (Str × D))
/-- at a: a caught exception of the class cls, its fields at dd -/
def ExV (cls : Value) (dd : Option Addr) (a : Addr) : HO := .ext fun h => ∃ (oe : Obj) (vs : Array Value), h.get? a = some oe ∧ Zc cls dd oe ∧ oe.data = .fields vs
/-- the tables of code objects that may grow, each with the name of what it holds: those that the written part leaves out -/
def tbs (K : PySem.W.Frag) : List (Addr × Str) := K.filterMap fun e => match e.2.data with
  | .func fd => (match fd.code with
    | .ref c => (match K.lookup c with
      | some ⟨_, _, .fields vs, _⟩ => (match (vs[11]? : Option Value) with
        | some (.ref P) => (match K.lookup P with
          | none => some (P, fd.qualname ++ ".<locals>." ++ "<lambda>")
          | some _ => none)
        | _ => none)
      | _ => none)
    | _ => none)
  | _ => none
abbrev NoT (o : HO) : Prop := ∀ ps, o ≠ .tbl ps
abbrev Sto := List Cell
/-- the ghost: what is never written again, and where the cells stand -/
structure Gh where
  F : Hp
  f : Nat → Option Addr
def Gh.le (G G' : Gh) : Prop := (∀ a o, G.F a = some o → G'.F a = some o) ∧ ∀ n a, G.f n = some a → G'.f n = some a
theorem Gh.le.refl {G : Gh} : G.le G := ⟨fun _ _ h => h, fun _ _ h => h⟩
theorem Gh.le.trans {G G' G'' : Gh} (a : G.le G') (b : G'.le G'') : G.le G'' := ⟨fun x o h => b.1 x o (a.1 x o h), fun n x h => b.2 n x (a.2 n x h)⟩
mutual
inductive Rp (K : PySem.W.Frag) (G : Gh) : D → V → Prop where
  | non : Rp K G .non .non
  | bl (b : Bool) : Rp K G (.bl b) (.bl b)
  | int (i : Int) : Rp K G (.int i) (.int i)
  | str (x : Str) : Rp K G (.str x) (.str x)
  | tup {xs : List D} {a : Addr} {vs : List V} (h : SqT K G.F a vs) (r : Rps K G xs vs) : Rp K G (.tup xs) (.ref a)
  | lst {xs : List D} {a : Addr} {vs : List V} (h : G.F a = some (.lst vs)) (r : Rps K G xs vs) : Rp K G (.lst xs) (.ref a)
  | obj {c : String} {fs : List (String × D)} {a dx : Addr} {ws : List (Str × V)} (h : G.F a = some (.ins (He.ga K (Str.ofString c)) dx ws)) (r : Rpf K G fs ws) : Rp K G (.obj c fs) (.ref a)
  | loc {n : Nat} {a : Addr} (h : G.f n = some a) : Rp K G (.loc n) (.ref a)
  | cls (c : String) : Rp K G (.cls c) (.ref (He.ga K (Str.ofString c)))
  | fnc (f : String) : Rp K G (.fnc f) (.ref (He.ga K (Str.ofString f)))
  | ty (n : String) : Rp K G (.ty n) (.ty n)
  | src {xs : List D} {a : Addr} {vs : List V} (h : SqL K G.F a vs) (r : Rps K G xs vs) : Rp K G (.src xs) (.ref a)
  | dic0 {a : Addr} (h : G.F a = some (.dK [])) : Rp K G .dic0 (.ref a)
  | hob {o : HO} {a : Addr} (h : G.F a = some o) : Rp K G (.hob o) (.ref a)
  | exc0 {c : String} {a : Addr} (h : G.F a = some (ExV (.ref (He.ga K (Str.ofString c))) none a)) : Rp K G (.exc c []) (.ref a)
  | exc {c : String} {fs : List (String × D)} {a d : Addr} {ws : List (Str × V)} (h : G.F a = some (ExV (.ref (He.ga K (Str.ofString c))) (some d) a)) (hd : G.F d = some (.xd ws)) (r : Rpf K G fs ws) : Rp K G (.exc c fs) (.ref a)
inductive Rps (K : PySem.W.Frag) (G : Gh) : List D → List V → Prop where
  | nil : Rps K G [] []
  | cons {d : D} {v : V} {xs : List D} {vs : List V} (h : Rp K G d v) (t : Rps K G xs vs) : Rps K G (d :: xs) (v :: vs)
inductive Rpf (K : PySem.W.Frag) (G : Gh) : List (String × D) → List (Str × V) → Prop where
  | nil : Rpf K G [] []
  | cons {n : String} {d : D} {v : V} {fs : List (String × D)} {ws : List (Str × V)} (h : Rp K G d v) (t : Rpf K G fs ws) : Rpf K G ((n, d) :: fs) ((Str.ofString n, v) :: ws)
end
theorem SqT.mono {K : PySem.W.Frag} {F F' : Hp} {a : Addr} {vs : List V} (h : SqT K F a vs) (le : ∀ a o, F a = some o → F' a = some o) : SqT K F' a vs := by
  rcases h with (h | ⟨o, h⟩) | h
  · exact .inl (.inl (le _ _ h))
  · exact .inl (.inr ⟨o, le _ _ h⟩)
  · exact .inr h
theorem SqL.mono {K : PySem.W.Frag} {F F' : Hp} {a : Addr} {vs : List V} (h : SqL K F a vs) (le : ∀ a o, F a = some o → F' a = some o) : SqL K F' a vs := by
  rcases h with (h | ⟨o, h⟩) | h
  · exact .inl (.inl (le _ _ h))
  · exact .inl (.inr ⟨o, le _ _ h⟩)
  · exact .inr h
section
variable {K : PySem.W.Frag} {G G' : Gh}
theorem Rp.mono {d : D} {v : V} (h : Rp K G d v) (le : G.le G') : Rp K G' d v :=
  Rp.rec (motive_1 := fun d v _ => Rp K G' d v) (motive_2 := fun xs vs _ => Rps K G' xs vs) (motive_3 := fun fs ws _ => Rpf K G' fs ws)
    .non .bl .int .str (fun h _ r => .tup (SqT.mono h le.1) r) (fun h _ r => .lst (le.1 _ _ h) r) (fun h _ r => .obj (le.1 _ _ h) r) (fun h => .loc (le.2 _ _ h)) .cls .fnc .ty (fun h _ r => .src (SqL.mono h le.1) r) (fun h => .dic0 (le.1 _ _ h)) (fun h => .hob (le.1 _ _ h)) (fun h => .exc0 (le.1 _ _ h)) (fun h hd _ r => .exc (le.1 _ _ h) (le.1 _ _ hd) r) .nil (fun _ _ a b => .cons a b) .nil (fun _ _ a b => .cons a b) h
theorem Rps.mono {xs : List D} {vs : List V} (h : Rps K G xs vs) (le : G.le G') : Rps K G' xs vs := by
  induction xs generalizing vs with
  | nil => cases h; exact .nil
  | cons x xs ih => cases h with | cons a b => exact .cons (a.mono le) (ih b)
theorem Rpf.mono {fs : List (String × D)} {ws : List (Str × V)} (h : Rpf K G fs ws) (le : G.le G') : Rpf K G' fs ws := by
  induction fs generalizing ws with
  | nil => cases h; exact .nil
  | cons x xs ih => cases h with | cons a b => exact .cons (a.mono le) (ih b)
theorem Rps.length {xs : List D} {vs : List V} (h : Rps K G xs vs) : vs.length = xs.length := by
  induction xs generalizing vs with
  | nil => cases h; rfl
  | cons x xs ih => cases h with | cons a b => simp [ih b]
theorem Rps.get {xs : List D} {vs : List V} {i : Nat} {d : D} (h : Rps K G xs vs) (e : xs[i]? = some d) : ∃ v, vs[i]? = some v ∧ Rp K G d v := by
  induction xs generalizing vs i with
  | nil => simp at e
  | cons x xs ih =>
    cases h with
    | cons a b =>
      cases i with
      | zero => simp at e; subst e; exact ⟨_, rfl, a⟩
      | succ i => obtain ⟨v, h1, h2⟩ := ih b (by simpa using e); exact ⟨v, by simpa using h1, h2⟩
theorem Rps.get' {xs : List D} {vs : List V} {i : Nat} {v : V} (h : Rps K G xs vs) (e : vs[i]? = some v) : ∃ d, xs[i]? = some d ∧ Rp K G d v := by
  induction xs generalizing vs i with
  | nil => cases h; simp at e
  | cons x xs ih =>
    cases h with
    | cons a b =>
      cases i with
      | zero => simp at e; subst e; exact ⟨_, rfl, a⟩
      | succ i => obtain ⟨v, h1, h2⟩ := ih b (by simpa using e); exact ⟨v, by simpa using h1, h2⟩
theorem Rps.append {xs ys : List D} {vs ws : List V} (h : Rps K G xs vs) (h' : Rps K G ys ws) : Rps K G (xs ++ ys) (vs ++ ws) := by
  induction xs generalizing vs with
  | nil => cases h; exact h'
  | cons x xs ih => cases h with | cons a b => exact .cons a (ih b)
theorem Rps.take {xs : List D} {vs : List V} (n : Nat) (h : Rps K G xs vs) : Rps K G (xs.take n) (vs.take n) := by
  induction xs generalizing vs n with
  | nil => cases h; simp; exact .nil
  | cons x xs ih =>
    cases h with
    | cons a b =>
      cases n with
      | zero => exact .nil
      | succ n => exact .cons a (ih n b)
theorem Rps.drop {xs : List D} {vs : List V} (n : Nat) (h : Rps K G xs vs) : Rps K G (xs.drop n) (vs.drop n) := by
  induction xs generalizing vs n with
  | nil => cases h; simp; exact .nil
  | cons x xs ih =>
    cases h with
    | cons a b =>
      cases n with
      | zero => exact .cons a b
      | succ n => exact ih n b
theorem Rps.set {xs : List D} {vs : List V} {d : D} {v : V} (i : Nat) (h : Rps K G xs vs) (r : Rp K G d v) : Rps K G (xs.set i d) (vs.set i v) := by
  induction xs generalizing vs i with
  | nil => cases h; exact .nil
  | cons x xs ih =>
    cases h with
    | cons a b =>
      cases i with
      | zero => exact .cons r b
      | succ i => exact .cons a (ih i b)
theorem Rpf.get {fs : List (String × D)} {ws : List (Str × V)} {n : String} {d : D} (h : Rpf K G fs ws) (e : fs.lookup n = some d) (inj : ∀ p ∈ fs, Str.ofString p.1 = Str.ofString n → p.1 = n) : ∃ v, ws.lookup (Str.ofString n) = some v ∧ Rp K G d v := by
  induction fs generalizing ws with
  | nil => simp at e
  | cons x xs ih =>
    cases h with
    | @cons m d' v' _ ws' a b =>
      by_cases hm : n = m
      · subst hm
        simp at e
        subst e
        exact ⟨v', by simp, a⟩
      · have h1 : (n == m) = false := by simpa using hm
        rw [List.lookup_cons, h1] at e
        obtain ⟨v, p, q⟩ := ih b e fun p hp => inj p (List.mem_cons_of_mem _ hp)
        refine ⟨v, ?_, q⟩
        have h2 : (Str.ofString n == Str.ofString m) = false := by
          apply beq_eq_false_iff_ne.mpr
          intro z
          exact hm (inj (m, d') List.mem_cons_self z.symm).symm
        rw [List.lookup_cons, h2]
        exact p
end
/-- a dict by texts -/
inductive Rpk (K : PySem.W.Frag) (G : Gh) : List (Str × D) → List (Key × V) → Prop where
  | nil : Rpk K G [] []
  | cons {x : Str} {d : D} {v : V} {es : List (Str × D)} {kvs : List (Key × V)} (h : Rp K G d v) (t : Rpk K G es kvs) : Rpk K G ((x, d) :: es) ((.inr x, v) :: kvs)
theorem Rpk.mono {K : PySem.W.Frag} {G G' : Gh} {es : List (Str × D)} {kvs : List (Key × V)} (h : Rpk K G es kvs) (le : G.le G') : Rpk K G' es kvs := by
  induction h with
  | nil => exact .nil
  | cons a _ ih => exact .cons (a.mono le) ih
/-- tables and what they lead to stay -/
def Soft (H H' : Hp) : Prop := ∀ b o, H b = some o → ((∃ ps, o = .tbl ps) ∨ ∃ φ, o = .ext φ) → H' b = some o
theorem tabs_soft {T : List (Addr × Str)} {H H' : Hp} (t : LamX.Tabs T H) (e : Soft H H') : LamX.Tabs T H' := fun p hp => by
  obtain ⟨ps, h1, h2, h3⟩ := t p hp
  refine ⟨ps, e _ _ h1 (.inl ⟨ps, rfl⟩), h2, fun pos cv hc => ?_⟩
  obtain ⟨c, e1, e2⟩ := h3 pos cv hc
  exact ⟨c, e1, e _ _ e2 (.inr ⟨_, rfl⟩)⟩
theorem Soft.ext {H H' : Hp} (e : Ext H H') : Soft H H' := fun b o h _ => e b o h
theorem Soft.upd {H : Hp} {p : Addr} {o : HO} (h : ∀ u, H p = some u → (∀ ps, u ≠ .tbl ps) ∧ ∀ φ, u ≠ .ext φ) : Soft H (upd H p o) := fun b u e k => by
  rw [upd_ne fun z => ?_]
  · exact e
  · subst z
    rcases k with ⟨ps, k⟩ | ⟨φ, k⟩
    · exact (h u e).1 ps k
    · exact (h u e).2 φ k
theorem Soft.fresh {H : Hp} {p : Addr} {o : HO} (h : H p = none) : Soft H (L2.upd H p o) := Soft.upd fun u e => by rw [h] at e; cases e
/-! ### the state -/
def CellOk (K : PySem.W.Frag) (G : Gh) (H : Hp) (a : Addr) : Cell → Prop
  | .lst xs => ∃ vs, H a = some (.lst vs) ∧ Rps K G xs vs
  | .ins c fs => ∃ dx ws, H a = some (.ins (He.ga K (Str.ofString c)) dx ws) ∧ Rpf K G fs ws
  | .dead => True
  | .dic es => ∃ kvs, H a = some (.dK kvs) ∧ Rpk K G es kvs
structure Sm (K : PySem.W.Frag) (G : Gh) (S : Sto) (H : Hp) : Prop where
  fr : ∀ a o, G.F a = some o → H a = some o
  cel : ∀ (n : Nat) (c : Cell), S[n]? = some c → c ≠ .dead → ∃ a, G.f n = some a ∧ G.F a = none ∧ CellOk K G H a c
  dom : ∀ n a, G.f n = some a → n < S.length
  inj : ∀ n m a, G.f n = some a → G.f m = some a → n = m
  dn : ∀ n a, G.f n = some a → ∃ o, H a = some o ∧ NoT o
  nt : ∀ a o, G.F a = some o → NoT o
  tb : LamX.Tabs (tbs K) H
theorem CellOk.mono {K : PySem.W.Frag} {G G' : Gh} {H H' : Hp} {a : Addr} {c : Cell} (h : CellOk K G H a c) (le : G.le G') (e : ∀ o, H a = some o → H' a = some o) : CellOk K G' H' a c := by
  cases c with
  | lst xs => obtain ⟨vs, h1, h2⟩ := h; exact ⟨vs, e _ h1, h2.mono le⟩
  | ins c fs => obtain ⟨dx, ws, h1, h2⟩ := h; exact ⟨dx, ws, e _ h1, h2.mono le⟩
  | dead => trivial
  | dic es => obtain ⟨kvs, h1, h2⟩ := h; exact ⟨kvs, e _ h1, h2.mono le⟩
theorem CellOk.hard {K : PySem.W.Frag} {G : Gh} {H : Hp} {a : Addr} {c : Cell} (h : CellOk K G H a c) (nd : c ≠ .dead) : ∃ o, H a = some o ∧ (∀ ps, o ≠ .tbl ps) ∧ ∀ φ, o ≠ .ext φ := by
  cases c with
  | lst xs => obtain ⟨vs, h1, _⟩ := h; exact ⟨_, h1, (fun _ z => by cases z), (fun _ z => by cases z)⟩
  | ins c fs => obtain ⟨dx, ws, h1, _⟩ := h; exact ⟨_, h1, (fun _ z => by cases z), (fun _ z => by cases z)⟩
  | dead => exact absurd rfl nd
  | dic es => obtain ⟨kvs, h1, _⟩ := h; exact ⟨_, h1, (fun _ z => by cases z), (fun _ z => by cases z)⟩
theorem CellOk.has {K : PySem.W.Frag} {G : Gh} {H : Hp} {a : Addr} {c : Cell} (h : CellOk K G H a c) (nd : c ≠ .dead) : ∃ o, H a = some o := by
  cases c with
  | lst xs => obtain ⟨vs, h1, _⟩ := h; exact ⟨_, h1⟩
  | ins c fs => obtain ⟨dx, ws, h1, _⟩ := h; exact ⟨_, h1⟩
  | dead => exact absurd rfl nd
  | dic es => obtain ⟨kvs, h1, _⟩ := h; exact ⟨_, h1⟩
section
variable {K : PySem.W.Frag} {G G' : Gh} {S : Sto} {H H' : Hp}
theorem Sm.ext (m : Sm K G S H) (e : Ext H H') : Sm K G S H' where
  fr := fun a o h => e _ _ (m.fr a o h)
  cel := fun n c h nd => by
    obtain ⟨a, h1, h2, h3⟩ := m.cel n c h nd
    exact ⟨a, h1, h2, h3.mono .refl fun o => e _ _⟩
  dom := m.dom
  inj := m.inj
  dn := fun n a h => let ⟨o, z, y⟩ := m.dn n a h; ⟨o, e _ _ z, y⟩
  nt := m.nt
  tb := tabs_soft m.tb (.ext e)
/-- the ghost with one more thing that is never written -/
def Gh.put (G : Gh) (p : Addr) (o : HO) : Gh := ⟨upd G.F p o, G.f⟩
theorem Gh.put_le {G : Gh} {p : Addr} {o : HO} (h : G.F p = none) : G.le (G.put p o) := ⟨fun a u e => by
  show upd G.F p o a = _
  rw [upd_ne (ne_of_none e h)]
  exact e, fun _ _ h => h⟩
theorem Sm.free (m : Sm K G S H) {p : Addr} (h : H p = none) : G.F p = none := by
  cases e : G.F p with
  | none => rfl
  | some o => rw [m.fr _ _ e] at h; cases h
theorem Gh.put_nt {G : Gh} {p : Addr} {o : HO} (m : ∀ a o, G.F a = some o → NoT o) (ht : NoT o) : ∀ a u, (G.put p o).F a = some u → NoT u := fun a u e => by
  have e' : upd G.F p o a = some u := e
  by_cases z : a = p
  · rw [z, upd_same] at e'
    cases e'
    exact ht
  · rw [upd_ne z] at e'
    exact m a u e'
theorem Sm.put (m : Sm K G S H) {p : Addr} {o : HO} (h : H p = none) (ht : NoT o := by intro _ z; cases z) : Sm K (G.put p o) S (upd H p o) where
  fr := fun a u e => by
    by_cases q : a = p
    · subst q
      rw [upd_same]
      have e' : upd G.F a o a = some u := e
      rw [upd_same] at e'
      exact e'
    · have e' : upd G.F p o a = some u := e
      rw [upd_ne q] at e'
      rw [upd_ne q]
      exact m.fr _ _ e'
  cel := fun n c e nd => by
    obtain ⟨a, h1, h2, h3⟩ := m.cel n c e nd
    obtain ⟨u, hu⟩ := h3.has nd
    have na := ne_of_none hu h
    refine ⟨a, h1, ?_, h3.mono (Gh.put_le (m.free h)) fun o' q => by rw [upd_ne na]; exact q⟩
    show upd G.F p o a = none
    rw [upd_ne na]
    exact h2
  dom := m.dom
  inj := m.inj
  dn := fun n a e => by
    obtain ⟨u, hu, nu⟩ := m.dn n a e
    exact ⟨u, by rw [upd_ne (ne_of_none hu h)]; exact hu, nu⟩
  nt := Gh.put_nt m.nt ht
  tb := tabs_soft m.tb (.fresh h)
/-- a new cell -/
def Gh.new (G : Gh) (n : Nat) (p : Addr) : Gh := ⟨G.F, fun m => if m = n then some p else G.f m⟩
theorem Gh.new_at {G : Gh} {n : Nat} {p : Addr} : (G.new n p).f n = some p := if_pos rfl
theorem Sm.new_le (m : Sm K G S H) {p : Addr} : G.le (G.new S.length p) := ⟨fun _ _ h => h, fun n a h => by
  have := m.dom n a h
  show (if n = S.length then some p else G.f n) = some a
  rw [if_neg (by omega)]
  exact h⟩
theorem Sm.addr (m : Sm K G S H) {n : Nat} {c : Cell} {a : Addr} (h : S[n]? = some c) (nd : c ≠ .dead) (e : G.f n = some a) : G.F a = none ∧ CellOk K G H a c := by
  obtain ⟨b, h1, h2, h3⟩ := m.cel n c h nd
  rw [h1] at e
  have e' := Option.some.inj e
  subst e'
  exact ⟨h2, h3⟩
theorem Sm.new (m : Sm K G S H) {p : Addr} {o : HO} {c : Cell} (h : H p = none) (hc : CellOk K (G.new S.length p) (upd H p o) p c) (ht : NoT o := by intro _ z; cases z) : Sm K (G.new S.length p) (S ++ [c]) (upd H p o) where
  fr := fun a u e => by
    have := m.fr a u e
    rw [upd_ne (ne_of_none this h)]
    exact this
  cel := fun n c' e nd => by
    by_cases q : n < S.length
    · rw [List.getElem?_append_left q] at e
      obtain ⟨a, h1, h2, h3⟩ := m.cel n c' e nd
      obtain ⟨u, hu⟩ := h3.has nd
      have na := ne_of_none hu h
      exact ⟨a, m.new_le.2 _ _ h1, h2, h3.mono m.new_le fun o' q => by rw [upd_ne na]; exact q⟩
    · have q2 : n = S.length := by
        have : n < (S ++ [c]).length := (List.getElem?_eq_some_iff.mp e).1
        simp at this
        omega
      subst q2
      simp at e
      subst e
      exact ⟨p, Gh.new_at, m.free h, hc⟩
  dom := fun n a e => by
    simp
    by_cases q : n = S.length
    · omega
    · have e' : (if n = S.length then some p else G.f n) = some a := e
      rw [if_neg q] at e'
      have := m.dom n a e'
      omega
  inj := fun n k a e1 e2 => by
    have e1' : (if n = S.length then some p else G.f n) = some a := e1
    have e2' : (if k = S.length then some p else G.f k) = some a := e2
    by_cases q1 : n = S.length
    · by_cases q2 : k = S.length
      · omega
      · rw [if_pos q1] at e1'
        rw [if_neg q2] at e2'
        cases e1'
        obtain ⟨o, ho, _⟩ := m.dn _ _ e2'
        rw [h] at ho
        cases ho
    · by_cases q2 : k = S.length
      · rw [if_neg q1] at e1'
        rw [if_pos q2] at e2'
        cases e2'
        obtain ⟨o, ho, _⟩ := m.dn _ _ e1'
        rw [h] at ho
        cases ho
      · rw [if_neg q1] at e1'
        rw [if_neg q2] at e2'
        exact m.inj _ _ _ e1' e2'
  dn := fun n a e => by
    have e' : (if n = S.length then some p else G.f n) = some a := e
    by_cases q : n = S.length
    · rw [if_pos q] at e'
      cases e'
      exact ⟨o, upd_same, ht⟩
    · rw [if_neg q] at e'
      obtain ⟨u, hu, nu⟩ := m.dn n a e'
      exact ⟨u, by rw [upd_ne (ne_of_none hu h)]; exact hu, nu⟩
  nt := m.nt
  tb := tabs_soft m.tb (.fresh h)
/-- a cell is written -/
theorem Sm.write (m : Sm K G S H) {n : Nat} {a : Addr} {c c' : Cell} {o : HO} (h : S[n]? = some c) (nd : c ≠ .dead) (e : G.f n = some a) (hc : CellOk K G (upd H a o) a c') (ht : NoT o := by intro _ z; cases z) : Sm K G (S.set n c') (upd H a o) where
  fr := fun b u q => by
    have hF := (m.addr h nd e).1
    rw [upd_ne (ne_of_none q hF)]
    exact m.fr _ _ q
  cel := fun k d q nd' => by
    by_cases hk : n = k
    · subst hk
      have hl : n < S.length := (List.getElem?_eq_some_iff.mp h).1
      rw [List.getElem?_set_self hl] at q
      cases q
      exact ⟨a, e, (m.addr h nd e).1, hc⟩
    · rw [List.getElem?_set_ne hk] at q
      obtain ⟨b, h1, h2, h3⟩ := m.cel k d q nd'
      have nb : b ≠ a := fun z => by
        subst z
        exact hk (m.inj _ _ _ e h1)
      exact ⟨b, h1, h2, h3.mono .refl fun o' z => by rw [upd_ne nb]; exact z⟩
  dom := fun k b q => by
    rw [List.length_set]
    exact m.dom k b q
  inj := m.inj
  dn := fun k b q => by
    by_cases z : b = a
    · exact ⟨o, by rw [z]; exact upd_same, ht⟩
    · obtain ⟨u, hu, nu⟩ := m.dn k b q
      exact ⟨u, by rw [upd_ne z]; exact hu, nu⟩
  nt := m.nt
  tb := tabs_soft m.tb (.upd fun u hu => by
    obtain ⟨o1, e1, n1⟩ := (m.addr h nd e).2.hard nd
    rw [hu] at e1
    cases e1
    exact n1)
/-- an instance is written no more -/
theorem Sm.freeze (m : Sm K G S H) {n : Nat} {a : Addr} {c : Cell} {o : HO} (h : S[n]? = some c) (nd : c ≠ .dead) (e : G.f n = some a) (ho : H a = some o) (ht : NoT o := by intro _ z; cases z) : Sm K (G.put a o) (S.set n .dead) H where
  fr := fun b u q => by
    have q' : upd G.F a o b = some u := q
    by_cases z : b = a
    · subst z
      rw [upd_same] at q'
      rw [← q']
      exact ho
    · rw [upd_ne z] at q'
      exact m.fr _ _ q'
  cel := fun k d q nd' => by
    by_cases hk : n = k
    · subst hk
      have hl : n < S.length := (List.getElem?_eq_some_iff.mp h).1
      rw [List.getElem?_set_self hl] at q
      cases q
      exact absurd rfl nd'
    · rw [List.getElem?_set_ne hk] at q
      obtain ⟨b, h1, h2, h3⟩ := m.cel k d q nd'
      have nb : b ≠ a := fun z => by
        subst z
        exact hk (m.inj _ _ _ e h1)
      refine ⟨b, h1, ?_, h3.mono (Gh.put_le (m.addr h nd e).1) fun o' z => z⟩
      show upd G.F a o b = none
      rw [upd_ne nb]
      exact h2
  dom := fun k b q => by
    rw [List.length_set]
    exact m.dom k b q
  inj := m.inj
  dn := m.dn
  nt := Gh.put_nt m.nt ht
  tb := m.tb
end
/-- from a state to a later one: what is no cell stays, new cells are new -/
structure Stp (G : Gh) (H : Hp) (G' : Gh) (H' : Hp) : Prop where
  le : G.le G'
  dom : ∀ a o, H a = some o → NoT o → ∃ o', H' a = some o' ∧ NoT o'
  frm : ∀ a o, H a = some o → NoT o → (∀ n, G.f n ≠ some a) → H' a = some o
  new : ∀ n a, G'.f n = some a → G.f n = some a ∨ Fr0 H a
  fro : ∀ a o, G'.F a = some o → G.F a = some o ∨ Fr0 H a ∨ ∃ n, G.f n = some a
theorem fr0_not {H : Hp} {a : Addr} {o : HO} (z : Fr0 H a) (h : H a = some o) (nt : NoT o) : False := by
  obtain ⟨ps, e⟩ := z o h
  exact nt ps e
section
variable {K : PySem.W.Frag} {G G' G'' : Gh} {S : Sto} {H H' H'' : Hp}
theorem Stp.refl : Stp G H G H := ⟨.refl, fun _ o h n => ⟨o, h, n⟩, fun _ _ h _ _ => h, fun _ _ h => .inl h, fun _ _ h => .inl h⟩
theorem Stp.none_of (x : Stp G H G' H') {a : Addr} (q : Fr0 H' a) : Fr0 H a := fun o h => by
  by_cases nt : NoT o
  · obtain ⟨o', h', n'⟩ := x.dom a o h nt
    exact (fr0_not q h' n').elim
  · exact Classical.byContradiction fun z => nt fun ps e => z ⟨ps, e⟩
theorem Stp.trans (x : Stp G H G' H') (y : Stp G' H' G'' H'') : Stp G H G'' H'' where
  le := x.le.trans y.le
  dom := fun a o h n => let ⟨o', h', n'⟩ := x.dom a o h n; y.dom a o' h' n'
  frm := fun a o h nt hn => y.frm a o (x.frm a o h nt hn) nt fun n e => by
    rcases x.new n a e with q | q
    · exact hn n q
    · exact fr0_not q h nt
  new := fun n a e => by
    rcases y.new n a e with q | q
    · exact x.new n a q
    · exact .inr (x.none_of q)
  fro := fun a o e => by
    rcases y.fro a o e with q | q | ⟨n, q⟩
    · exact x.fro a o q
    · exact .inr (.inl (x.none_of q))
    · rcases x.new n a q with q | q
      · exact .inr (.inr ⟨n, q⟩)
      · exact .inr (.inl q)
theorem Stp.ext (e : Ext H H') : Stp G H G H' := ⟨.refl, fun _ o h n => ⟨o, e _ _ h, n⟩, fun _ _ h _ _ => e _ _ h, fun _ _ h => .inl h, fun _ _ h => .inl h⟩
theorem Stp.put {p : Addr} {o : HO} (sm : Sm K G S H) (hp : H p = none) : Stp G H (G.put p o) (upd H p o) :=
  ⟨Gh.put_le (sm.free hp), fun a u h n => ⟨u, by rw [upd_ne (ne_of_none h hp)]; exact h, n⟩, fun a u h _ _ => by rw [upd_ne (ne_of_none h hp)]; exact h, fun _ _ h => .inl h, fun a u h => by
    have h' : upd G.F p o a = some u := h
    by_cases z : a = p
    · exact .inr (.inl (by rw [z]; exact fr0_none hp))
    · rw [upd_ne z] at h'
      exact .inl h'⟩
theorem Stp.cell {p : Addr} {o : HO} (sm : Sm K G S H) (hp : H p = none) : Stp G H (G.new S.length p) (upd H p o) :=
  ⟨sm.new_le, fun a u h n => ⟨u, by rw [upd_ne (ne_of_none h hp)]; exact h, n⟩, fun a u h _ _ => by rw [upd_ne (ne_of_none h hp)]; exact h, fun n a h => by
    have h' : (if n = S.length then some p else G.f n) = some a := h
    by_cases q : n = S.length
    · rw [if_pos q] at h'
      cases h'
      exact .inr (fr0_none hp)
    · rw [if_neg q] at h'
      exact .inl h', fun _ _ h => .inl h⟩
theorem Stp.write {n : Nat} {a : Addr} {o : HO} (e : G.f n = some a) (ht : NoT o := by intro _ z; cases z) : Stp G H G (upd H a o) :=
  ⟨.refl, fun b u h nt => by
    by_cases z : b = a
    · exact ⟨o, by rw [z]; exact upd_same, ht⟩
    · exact ⟨u, by rw [upd_ne z]; exact h, nt⟩, fun b u h _ hn => by
    have z : b ≠ a := fun z => hn n (by rw [z]; exact e)
    rw [upd_ne z]
    exact h, fun _ _ h => .inl h, fun _ _ h => .inl h⟩
theorem Stp.freeze {n : Nat} {a : Addr} {o : HO} (hn : G.f n = some a) (h : G.F a = none) : Stp G H (G.put a o) H := ⟨Gh.put_le h, fun _ o h n => ⟨o, h, n⟩, fun _ _ h _ _ => h, fun _ _ h => .inl h, fun b u e => by
  have e' : upd G.F a o b = some u := e
  by_cases z : b = a
  · exact .inr (.inr ⟨n, by rw [z]; exact hn⟩)
  · rw [upd_ne z] at e'
    exact .inl e'⟩
/-- what was free at the start may be written -/
theorem Stp.at {p : Addr} {o : HO} (x : Stp G H G' H') (hp : H p = none) : Stp G H G' (upd H' p o) :=
  ⟨x.le, fun a u h n => by
    obtain ⟨u', h', n'⟩ := x.dom a u h n
    exact ⟨u', by rw [upd_ne (ne_of_none h hp)]; exact h', n'⟩, fun a u h nt hn => by
    rw [upd_ne (ne_of_none h hp)]
    exact x.frm a u h nt hn, x.new, x.fro⟩
theorem Stp.add {p : Addr} {o : HO} (x : Stp G H G' H') (hp : H p = none) (hF : G'.F p = none) : Stp G H (G'.put p o) H' :=
  ⟨x.le.trans (Gh.put_le hF), x.dom, x.frm, x.new, fun a u h => by
    have h' : upd G'.F p o a = some u := h
    by_cases z : a = p
    · exact .inr (.inl (by rw [z]; exact fr0_none hp))
    · rw [upd_ne z] at h'
      exact x.fro a u h'⟩
/-- what is no cell and not told may be written -/
theorem Sm.other {p : Addr} {o : HO} (m : Sm K G S H) (hF : G.F p = none) (hc : ∀ n, G.f n ≠ some p) (hh : ∀ u, H p = some u → (∀ ps, u ≠ .tbl ps) ∧ ∀ φ, u ≠ .ext φ) : Sm K G S (upd H p o) where
  fr := fun a u e => by rw [upd_ne (ne_of_none e hF)]; exact m.fr a u e
  cel := fun n c e nd => by
    obtain ⟨a, h1, h2, h3⟩ := m.cel n c e nd
    exact ⟨a, h1, h2, h3.mono .refl fun o' q => by rw [upd_ne fun z => hc n (by rw [← z]; exact h1)]; exact q⟩
  dom := m.dom
  inj := m.inj
  dn := fun n a e => by
    obtain ⟨u, hu, nu⟩ := m.dn n a e
    exact ⟨u, by rw [upd_ne fun z => hc n (by rw [← z]; exact e)]; exact hu, nu⟩
  nt := m.nt
  tb := tabs_soft m.tb (.upd hh)
/-- .. and told from now on -/
theorem Sm.tell {p : Addr} {o : HO} (m : Sm K G S H) (hp : H p = some o) (hc : ∀ n, G.f n ≠ some p) (ht : NoT o := by intro _ z; cases z) : Sm K (G.put p o) S H where
  fr := fun a u e => by
    have e' : upd G.F p o a = some u := e
    by_cases z : a = p
    · subst z
      rw [upd_same] at e'
      rw [← e']
      exact hp
    · rw [upd_ne z] at e'
      exact m.fr a u e'
  cel := fun n c e nd => by
    obtain ⟨a, h1, h2, h3⟩ := m.cel n c e nd
    have z : a ≠ p := fun z => hc n (by rw [← z]; exact h1)
    have hF : ∀ b u, G.F b = some u → (G.put p o).F b = some u := fun b u q => by
      show upd G.F p o b = some u
      by_cases y : b = p
      · subst y
        have := m.fr _ _ q
        rw [hp] at this
        cases this
        exact upd_same
      · rw [upd_ne y]
        exact q
    refine ⟨a, h1, ?_, h3.mono ⟨hF, fun _ _ h => h⟩ fun _ q => q⟩
    show upd G.F p o a = none
    rw [upd_ne z]
    exact h2
  dom := m.dom
  inj := m.inj
  dn := m.dn
  nt := Gh.put_nt m.nt ht
  tb := m.tb
/-- what is no cell and not told becomes a cell -/
theorem Sm.adopt {p : Addr} {o : HO} {c : Cell} (m : Sm K G S H) (hp : H p = some o) (hF : G.F p = none) (hc : ∀ n, G.f n ≠ some p) (h : CellOk K (G.new S.length p) H p c) (ht : NoT o := by intro _ z; cases z) : Sm K (G.new S.length p) (S ++ [c]) H where
  fr := m.fr
  cel := fun n c' e nd => by
    by_cases q : n < S.length
    · rw [List.getElem?_append_left q] at e
      obtain ⟨a, h1, h2, h3⟩ := m.cel n c' e nd
      exact ⟨a, m.new_le.2 _ _ h1, h2, h3.mono m.new_le fun _ z => z⟩
    · have q2 : n = S.length := by
        have : n < (S ++ [c]).length := (List.getElem?_eq_some_iff.mp e).1
        simp at this
        omega
      subst q2
      simp at e
      subst e
      exact ⟨p, Gh.new_at, hF, h⟩
  dom := fun n a e => by
    simp
    by_cases q : n = S.length
    · omega
    · have e' : (if n = S.length then some p else G.f n) = some a := e
      rw [if_neg q] at e'
      have := m.dom n a e'
      omega
  inj := fun n k a e1 e2 => by
    have e1' : (if n = S.length then some p else G.f n) = some a := e1
    have e2' : (if k = S.length then some p else G.f k) = some a := e2
    by_cases q1 : n = S.length
    · by_cases q2 : k = S.length
      · omega
      · rw [if_pos q1] at e1'
        rw [if_neg q2] at e2'
        cases e1'
        exact absurd e2' (hc k)
    · by_cases q2 : k = S.length
      · rw [if_neg q1] at e1'
        rw [if_pos q2] at e2'
        cases e2'
        exact absurd e1' (hc n)
      · rw [if_neg q1] at e1'
        rw [if_neg q2] at e2'
        exact m.inj _ _ _ e1' e2'
  dn := fun n a e => by
    have e' : (if n = S.length then some p else G.f n) = some a := e
    by_cases q : n = S.length
    · rw [if_pos q] at e'
      cases e'
      exact ⟨o, hp, ht⟩
    · rw [if_neg q] at e'
      exact m.dn n a e'
  nt := m.nt
  tb := m.tb
end
end PV
set_option Elab.async false
set_option linter.all false
set_option maxRecDepth 100000
set_option maxHeartbeats 4000000
namespace PV
open PySem PySem.Spec PyProof.Rows L2 ZL
/-! ### how code ends -/
inductive Out (α : Type) where
  | ok (a : α) (S : Sto) | ex (c : String) (fs : List (String × D)) (S : Sto) | no
def Out.bind {α β : Type} (o : Out α) (k : α → Sto → Out β) : Out β := match o with
  | .ok a S => k a S
  | .ex c fs S => .ex c fs S
  | .no => .no
theorem bind_ok {α β : Type} {a : α} {S : Sto} {k : α → Sto → Out β} : (Out.ok a S).bind k = k a S := rfl
abbrev Ev := List (Option D)
abbrev ME := Ev → Sto → Out D
abbrev MT := Ev → Sto → Out Bool
abbrev MA := Ev → Sto → Out (List D)
inductive Fl where
  | nx (ρ : Ev) | rt (d : D) | bk (ρ : Ev) | ct (ρ : Ev)
abbrev MS := Ev → Sto → Out Fl
abbrev Fn := List D → Sto → Out D
/-- an exception by its class and its fields -/
def ExR (K : PySem.W.Frag) (G : Gh) (c : String) (fs : List (String × D)) (cls : Value) (dd : Option Addr) : Prop :=
  cls = .ref (He.ga K (Str.ofString c)) ∧ ((fs = [] ∧ dd = none) ∨ ∃ d ws, dd = some d ∧ G.F d = some (.xd ws) ∧ Rpf K G fs ws)
/-- what is wanted where an exception goes -/
def wEx (K : PySem.W.Frag) (G : Gh) (H : Hp) (c : String) (fs : List (String × D)) (S : Sto) : XK := fun cls dd H' => ∃ G', Stp G H G' H' ∧ Sm K G' S H' ∧ ExR K G' c fs cls dd
theorem wEx.anti {K : PySem.W.Frag} {G G1 : Gh} {H H1 : Hp} {c : String} {fs : List (String × D)} {S : Sto} {cls : Value} {dd : Option Addr} {H' : Hp} (le : Stp G H G1 H1) (h : wEx K G1 H1 c fs S cls dd H') : wEx K G H c fs S cls dd H' := by
  obtain ⟨G', l, r⟩ := h
  exact ⟨G', le.trans l, r⟩
def sat {α β : Type} (X : Cx) (R : Gh → α → β → Prop) (G : Gh) (H : Hp) (o : Out α) (Q : β → Hp → Prop) : Prop := match o with
  | .ok a S' => ∀ G' H' b, Stp G H G' H' → Sm X.K G' S' H' → R G' a b → Q b H'
  | .ex c fs S' => Takes X (fun cls dd _ H' => wEx X.K G H c fs S' cls dd H')
  | .no => False
section
variable {X : Cx} {α β γ δ : Type} {R : Gh → α → β → Prop} {R' : Gh → γ → δ → Prop} {G G1 : Gh} {H H1 : Hp} {o : Out α} {Q Q' : β → Hp → Prop}
theorem sat.mono (h : sat X R G H o Q) (le : Stp G H G1 H1) : sat X R G1 H1 o Q := by
  cases o with
  | ok a S => exact fun G' H' b l => h G' H' b (le.trans l)
  | ex c fs S => exact Takes.imp h fun _ _ _ _ z => z.anti le
  | no => exact h
theorem sat.imp (h : sat X R G H o Q) (i : ∀ b H, Q b H → Q' b H) : sat X R G H o Q' := by
  cases o with
  | ok a S => exact fun G' H' b l s r => i _ _ (h G' H' b l s r)
  | ex c fs S => exact h
  | no => exact h
/-- what the rest is given -/
def Aft (X : Cx) (R : Gh → α → β → Prop) (G : Gh) (H : Hp) (P : α → Sto → Gh → Hp → Prop) (b : β) (H1 : Hp) : Prop := ∃ a S1 G1, Stp G H G1 H1 ∧ Sm X.K G1 S1 H1 ∧ R G1 a b ∧ P a S1 G1 H1
theorem sat.bind {k : α → Sto → Out γ} {Q2 : δ → Hp → Prop} (h : sat X R' G H (o.bind k) Q2) : sat X R G H o (Aft X R G H fun a S1 G1 H1 => sat X R' G1 H1 (k a S1) Q2) := by
  cases o with
  | ok a S => exact fun G' H' b l s r => ⟨a, S, G', l, s, r, h.mono l⟩
  | ex c fs S => exact h
  | no => exact h
end
/-! ### slots -/
inductive Re (K : PySem.W.Frag) (G : Gh) : Ev → L2.St → Prop where
  | nil : Re K G [] []
  | skp {ρ : Ev} {σ : L2.St} {v : Option V} (t : Re K G ρ σ) : Re K G (none :: ρ) (v :: σ)
  | has {ρ : Ev} {σ : L2.St} {d : D} {v : V} (h : Rp K G d v) (t : Re K G ρ σ) : Re K G (some d :: ρ) (some v :: σ)
section
variable {K : PySem.W.Frag} {G G' : Gh} {ρ : Ev} {σ : L2.St}
theorem Re.mono (h : Re K G ρ σ) (le : G.le G') : Re K G' ρ σ := by
  induction h with
  | nil => exact .nil
  | skp _ ih => exact .skp ih
  | has r _ ih => exact .has (r.mono le) ih
theorem Re.get {i : Nat} {d : D} (h : Re K G ρ σ) (e : ρ[i]? = some (some d)) : ∃ v, σ[i]? = some (some v) ∧ Rp K G d v := by
  induction h generalizing i with
  | nil => simp at e
  | skp _ ih =>
    cases i with
    | zero => simp at e
    | succ i => obtain ⟨v, h1, h2⟩ := ih (i := i) (by simpa using e); exact ⟨v, by simpa using h1, h2⟩
  | has r _ ih =>
    cases i with
    | zero => simp at e; subst e; exact ⟨_, rfl, r⟩
    | succ i => obtain ⟨v, h1, h2⟩ := ih (i := i) (by simpa using e); exact ⟨v, by simpa using h1, h2⟩
theorem Re.set {d : D} {v : V} (h : Re K G ρ σ) (i : Nat) (r : Rp K G d v) : Re K G (ρ.set i (some d)) (σ.set i (some v)) := by
  induction h generalizing i with
  | nil => exact .nil
  | skp t ih =>
    cases i with
    | zero => exact .has r t
    | succ i => exact .skp (ih i)
  | has q t ih =>
    cases i with
    | zero => exact .has r t
    | succ i => exact .has q (ih i)
theorem Re.forget (h : Re K G ρ σ) (i : Nat) (v : Option V) : Re K G (ρ.set i none) (σ.set i v) := by
  induction h generalizing i with
  | nil => exact .nil
  | skp t ih =>
    cases i with
    | zero => exact .skp t
    | succ i => exact .skp (ih i)
  | has q t ih =>
    cases i with
    | zero => exact .skp t
    | succ i => exact .has q (ih i)
theorem Re.reps (n : Nat) : Re K G (List.replicate n none) (List.replicate n none) := by
  induction n with
  | zero => exact .nil
  | succ n ih => exact .skp ih
theorem Re.start {ds : List D} {vs : List V} (h : Rps K G ds vs) (n : Nat) : Re K G (ds.map some ++ List.replicate n none) (vs.map some ++ List.replicate n none) := by
  induction ds generalizing vs with
  | nil => cases h; exact Re.reps n
  | cons x xs ih => cases h with | cons a b => exact .has a (ih b)
end
/-! ### the judgements -/
def tE (X : Cx) (m : ME) : TE := fun σ H Q => ∃ ρ S G, Sm X.K G S H ∧ Re X.K G ρ σ ∧ sat X (Rp X.K) G H (m ρ S) Q
def tT (X : Cx) (m : MT) : TT := fun σ H Q => ∃ ρ S G, Sm X.K G S H ∧ Re X.K G ρ σ ∧ sat X (fun _ a b => a = b) G H (m ρ S) Q
def tA (X : Cx) (m : MA) : TA := fun σ H Q => ∃ ρ S G, Sm X.K G S H ∧ Re X.K G ρ σ ∧ sat X (Rps X.K) G H (m ρ S) Q
def satS (X : Cx) (G : Gh) (H : Hp) (o : Out Fl) (D : Ends) : Prop := match o with
  | .ok (.nx ρ') S' => ∀ G' H' σ', Stp G H G' H' → Sm X.K G' S' H' → Re X.K G' ρ' σ' → D.nx σ' H'
  | .ok (.rt d) S' => ∀ G' H' v, Stp G H G' H' → Sm X.K G' S' H' → Rp X.K G' d v → D.rt v H'
  | .ok (.bk ρ') S' => ∀ G' H' σ', Stp G H G' H' → Sm X.K G' S' H' → Re X.K G' ρ' σ' → D.bk σ' H'
  | .ok (.ct ρ') S' => ∀ G' H' σ', Stp G H G' H' → Sm X.K G' S' H' → Re X.K G' ρ' σ' → D.ct σ' H'
  | .ex c fs S' => Takes X (fun cls dd _ H' => wEx X.K G H c fs S' cls dd H')
  | .no => False
def tS (X : Cx) (m : MS) : TS := fun D σ H => ∃ ρ S G, Sm X.K G S H ∧ Re X.K G ρ σ ∧ satS X G H (m ρ S) D
abbrev QE (X : Cx) (e : Expr) (m : ME) : Prop := PE X e (tE X m)
abbrev QT (X : Cx) (e : Expr) (m : MT) : Prop := PT X e (tT X m)
abbrev QA (X : Cx) (es : List Expr) (m : MA) : Prop := PA X es (tA X m)
abbrev QS (X : Cx) (st : Stmt) (m : MS) : Prop := PS X st (tS X m)
abbrev QSs (X : Cx) (st : List Stmt) (m : MS) : Prop := PSs X st (tS X m)
theorem satS.mono {X : Cx} {G G1 : Gh} {H H1 : Hp} {o : Out Fl} {D : Ends} (h : satS X G H o D) (le : Stp G H G1 H1) : satS X G1 H1 o D := by
  match o, h with
  | .ok (.nx _) _, h => exact fun G' H' b l => h G' H' b (le.trans l)
  | .ok (.rt _) _, h => exact fun G' H' b l => h G' H' b (le.trans l)
  | .ok (.bk _) _, h => exact fun G' H' b l => h G' H' b (le.trans l)
  | .ok (.ct _) _, h => exact fun G' H' b l => h G' H' b (le.trans l)
  | .ex _ _ _, h => exact Takes.imp h fun _ _ _ _ z => z.anti le
  | .no, h => exact h
theorem satS.bind {α β : Type} {X : Cx} {R : Gh → α → β → Prop} {G : Gh} {H : Hp} {o : Out α} {k : α → Sto → Out Fl} {D : Ends} (h : satS X G H (o.bind k) D) : sat X R G H o (Aft X R G H fun a S1 G1 H1 => satS X G1 H1 (k a S1) D) := by
  cases o with
  | ok a S => exact fun G' H' b l s r => ⟨a, S, G', l, s, r, h.mono l⟩
  | ex c fs S => exact h
  | no => exact h
section
variable {X : Cx} {e : Expr} {st : Stmt} {sts : List Stmt}
theorem qe_of {t : TE} {m : ME} (h : PE X e t) (i : ∀ ρ S G σ H Q, Sm X.K G S H → Re X.K G ρ σ → sat X (Rp X.K) G H (m ρ S) Q → t σ H Q) : QE X e m :=
  ⟨fun pins s σ H Q I ⟨ρ, S, G, sm, re, q⟩ => h.run pins s σ H Q I (i ρ S G σ H Q sm re q)⟩
theorem qt_of {t : TT} {m : MT} (h : PT X e t) (i : ∀ ρ S G σ H Q, Sm X.K G S H → Re X.K G ρ σ → sat X (fun _ a b => a = b) G H (m ρ S) Q → t σ H Q) : QT X e m :=
  ⟨fun pins s σ H Q I ⟨ρ, S, G, sm, re, q⟩ => h.run pins s σ H Q I (i ρ S G σ H Q sm re q)⟩
theorem qs_of {t : TS} {m : MS} (h : PS X st t) (i : ∀ ρ S G σ H D, Sm X.K G S H → Re X.K G ρ σ → satS X G H (m ρ S) D → t D σ H) : QS X st m :=
  ⟨fun pins s σ H Q I ⟨ρ, S, G, sm, re, q⟩ => h.run pins s σ H Q I (i ρ S G σ H Q sm re q)⟩
theorem qss_of {t : TS} {m : MS} (h : PSs X sts t) (i : ∀ ρ S G σ H D, Sm X.K G S H → Re X.K G ρ σ → satS X G H (m ρ S) D → t D σ H) : QSs X sts m :=
  ⟨fun pins s σ H Q I ⟨ρ, S, G, sm, re, q⟩ => h.run pins s σ H Q I (i ρ S G σ H Q sm re q)⟩
end
/-! ### names, constants -/
def v (i : Nat) : ME := fun ρ S => match ρ[i]? with
  | some (some d) => .ok d S
  | _ => .no
def k (d : D) : ME := fun _ S => .ok d S
section
variable {X : Cx} {pos : Pos}
theorem qv (i : Nat) {x : Str} (hN : X.N[i]? = some x := by rfl) (hv : Vis X.env.scope x := by first | exact .inl rfl | exact .inr (.inl rfl) | exact .inr (.inr rfl)) (hd : (x == ("__debug__" : Str)) = false := by decide) (hcd : (x == ("__classdict__" : Str)) = false := by decide) : QE X (.Name x pos) (v i) :=
  qe_of (pe_var hN hv hd hcd) fun ρ S G σ H Q sm re h => by
    have h' : sat X (Rp X.K) G H (match ρ[i]? with | some (some d) => .ok d S | _ => .no) Q := h
    match e : ρ[i]?, h' with
    | some (some d), h' =>
      obtain ⟨v, h1, h2⟩ := re.get e
      exact ⟨v, h1, h' G H v .refl sm h2⟩
    | some none, h' => exact h'.elim
    | none, h' => exact h'.elim
theorem qk_of {e : Expr} {d : D} {x : V} (h : PE X e (tC x)) (r : ∀ G, Rp X.K G d x) : QE X e (k d) :=
  qe_of h fun ρ S G σ H Q sm re h => h G H x .refl sm (r G)
theorem qk_int {i : Int} {j : Nat} : QE X (.Constant (.int i) j pos) (k (.int i)) := qk_of pe_int fun _ => .int i
theorem qk_bl {b : Bool} {j : Nat} : QE X (.Constant (.bool b) j pos) (k (.bl b)) := qk_of pe_bl fun _ => .bl b
theorem qk_non {j : Nat} : QE X (.Constant .none j pos) (k .non) := qk_of pe_non fun _ => .non
theorem qk_str {x : Str} {j : Nat} : QE X (.Constant (.str x) j pos) (k (.str x)) := qk_of pe_str fun _ => .str x
/-- a module's int, text; a class of the module; a built-in class -/
theorem qg_int {x : Str} {i : Int} (hm : ∃ t, X.mg x = some (.int i t)) (hg : Gl X x := by rfl) (hd : (x == ("__debug__" : Str)) = false := by decide) : QE X (.Name x pos) (k (.int i)) :=
  let ⟨t, ht⟩ := hm
  qk_of (pe_glob (v := .int i) hg ht ⟨t, rfl⟩ hd) fun _ => .int i
theorem qg_str {x z : Str} (hm : ∃ t, X.mg x = some (.str z t)) (hg : Gl X x := by rfl) (hd : (x == ("__debug__" : Str)) = false := by decide) : QE X (.Name x pos) (k (.str z)) :=
  let ⟨t, ht⟩ := hm
  qk_of (pe_glob (v := .str z) hg ht ⟨t, rfl⟩ hd) fun _ => .str z
theorem qg_cls {c : String} (hm : X.mg (Str.ofString c) = some (.ref (He.ga X.K (Str.ofString c)))) (hg : Gl X (Str.ofString c) := by rfl) (hd : (Str.ofString c == ("__debug__" : Str)) = false := by decide) : QE X (.Name (Str.ofString c) pos) (k (.cls c)) :=
  qk_of (pe_glob (v := .ref _) hg hm rfl hd) fun _ => .cls c
theorem qg_ty {x : Str} {n : String} (hm : X.mg x = none) (hv : bootBuiltins x = some (.type n)) (hg : Gl X x := by rfl) (hn : x ≠ "__name__" := by decide) (hd : (x == ("__debug__" : Str)) = false := by decide) : QE X (.Name x pos) (k (.ty n)) :=
  qk_of (pe_bltn (v := .ty n) hg hm hv rfl hn hd) fun _ => .ty n
end
/-! ### argument lists -/
def aNil : MA := fun _ S => .ok [] S
def aCons (m : ME) (ms : MA) : MA := fun ρ S => (m ρ S).bind fun d S1 => (ms ρ S1).bind fun ds S2 => .ok (d :: ds) S2
section
variable {X : Cx} {e : Expr} {es : List Expr} {m : ME} {ms : MA} {pos : Pos}
theorem qa_nil : QA X [] aNil := ⟨fun pos pins s σ H Q I h => pa_nil.run pos pins s σ H Q I (by
  obtain ⟨ρ, S, G, sm, re, q⟩ := h
  exact q G H [] .refl sm .nil)⟩
theorem qa_cons (h : QE X e m) (hs : QA X es ms) (hst : starEach (e :: es) X.env = (false, eval e X.env) :: starEach es X.env := by rfl) : QA X (e :: es) (aCons m ms) :=
  ⟨fun pos pins s σ H Q I z => (pa_cons h hs hst).run pos pins s σ H Q I (by
    obtain ⟨ρ, S, G, sm, re, q⟩ := z
    refine ⟨ρ, S, G, sm, re, (sat.bind q).imp fun x H1 w => ?_⟩
    obtain ⟨d, S1, G1, le1, sm1, r1, q1⟩ := w
    refine ⟨ρ, S1, G1, sm1, re.mono le1.le, (sat.bind q1).imp fun xs H2 w => ?_⟩
    obtain ⟨ds, S2, G2, le2, sm2, r2, q2⟩ := w
    exact q2 G2 H2 _ .refl sm2 (.cons (r1.mono le2.le) r2))⟩
end
/-! ### statements -/
def sNil : MS := fun ρ S => .ok (.nx ρ) S
/-- the next statement, if the flow goes on -/
def sSeq (a b : MS) : MS := fun ρ S => (a ρ S).bind fun f S1 => match f with
  | .nx ρ' => b ρ' S1
  | f => .ok f S1
def sRet (m : ME) : MS := fun ρ S => (m ρ S).bind fun d S1 => .ok (.rt d) S1
def sRetN : MS := fun _ S => .ok (.rt .non) S
def sExp (m : ME) : MS := fun ρ S => (m ρ S).bind fun _ S1 => .ok (.nx ρ) S1
def sSet (i : Nat) (m : ME) : MS := fun ρ S => (m ρ S).bind fun d S1 => .ok (.nx (ρ.set i (some d))) S1
def sIf (t : MT) (a b : MS) : MS := fun ρ S => (t ρ S).bind fun c S1 => if c = true then a ρ S1 else b ρ S1
def sBrk : MS := fun ρ S => .ok (.bk ρ) S
def sCnt : MS := fun ρ S => .ok (.ct ρ) S
section
variable {X : Cx} {e : Expr} {st : Stmt} {sts sts' : List Stmt} {m : ME} {t : MT} {a b : MS} {pos : Pos}
theorem qs_nil : QSs X [] sNil := qss_of pss_nil fun ρ S G σ H D sm re h => h G H σ .refl sm re
theorem qs_cons (h : QS X st a) (h' : QSs X sts b) : QSs X (st :: sts) (sSeq a b) := qss_of (pss_cons h h') fun ρ S G σ H D sm re h => by
  refine ⟨ρ, S, G, sm, re, ?_⟩
  have h1 : satS X G H ((a ρ S).bind fun f S1 => match f with | .nx ρ' => b ρ' S1 | f => .ok f S1) D := h
  match a ρ S, h1 with
  | .ok (.nx ρ') S', h1 => exact fun G' H' σ' le sm' re' => ⟨ρ', S', G', sm', re', h1.mono le⟩
  | .ok (.rt _) _, h1 => exact h1
  | .ok (.bk _) _, h1 => exact h1
  | .ok (.ct _) _, h1 => exact h1
  | .ex _ _ _, h1 => exact h1
  | .no, h1 => exact h1
theorem qs_ret (h : QE X e m) : QS X (.Return (some e) pos) (sRet m) := qs_of (ps_ret h) fun ρ S G σ H D sm re z => by
  refine ⟨ρ, S, G, sm, re, (satS.bind z).imp fun x H1 w => ?_⟩
  obtain ⟨d, S1, G1, le1, sm1, r1, q1⟩ := w
  exact q1 G1 H1 x .refl sm1 r1
theorem qs_exp (h : QE X e m) (hs : swapsWith e none pos.line X.env = pure false := by rfl) : QS X (.Expr e pos) (sExp m) := qs_of (ps_expr h hs) fun ρ S G σ H D sm re z => by
  refine ⟨ρ, S, G, sm, re, (satS.bind z).imp fun x H1 w => ?_⟩
  obtain ⟨d, S1, G1, le1, sm1, r1, q1⟩ := w
  exact q1 G1 H1 σ .refl sm1 (re.mono le1.le)
theorem qs_set (i : Nat) {x : Str} {pos' : Pos} (h : QE X e m) (hN : X.N.Nodup) (hi : X.N[i]? = some x := by rfl) (hx : Loc X.env.scope x := by first | exact .inl rfl | exact .inr rfl) (hs : swapsWith e (some (.Name x pos')) pos.line X.env = pure false := by rfl) (hf : X.fn x = true ∨ X.env.scope.names.lookup x = some .local := by first | exact .inl rfl | exact .inr rfl) :
    QS X (.Assign [.Name x pos'] e pos) (sSet i m) := qs_of (ps_set (i := i) hN hi hx h hs hf) fun ρ S G σ H D sm re z => by
  refine ⟨ρ, S, G, sm, re, (satS.bind z).imp fun x H1 w => ?_⟩
  obtain ⟨d, S1, G1, le1, sm1, r1, q1⟩ := w
  exact q1 G1 H1 _ .refl sm1 ((re.mono le1.le).set i r1)
theorem qs_if {c : Expr} (hc : QT X c t) (ha : QSs X sts a) (hb : QSs X sts' b) : QS X (.If c sts sts' pos) (sIf t a b) := qs_of (ps_if hc ha hb) fun ρ S G σ H D sm re z => by
  refine ⟨ρ, S, G, sm, re, (satS.bind z).imp fun x H1 w => ?_⟩
  obtain ⟨d, S1, G1, le1, sm1, r1, q1⟩ := w
  subst r1
  cases d with
  | true => exact ⟨ρ, S1, G1, sm1, re.mono le1.le, q1⟩
  | false => exact ⟨ρ, S1, G1, sm1, re.mono le1.le, q1⟩
end
/-! ### cells that nothing leads to any more -/
mutual
def D.und (n : Nat) : D → Bool
  | .tup xs => belows n xs
  | .lst xs => belows n xs
  | .src xs => belows n xs
  | .dic0 => true
  | .hob _ => true
  | .exc _ fs => belowf n fs
  | .obj _ fs => belowf n fs
  | .loc m => decide (m < n)
  | .non => true
  | .bl _ => true
  | .int _ => true
  | .str _ => true
  | .cls _ => true
  | .fnc _ => true
  | .ty _ => true
def belows (n : Nat) : List D → Bool
  | [] => true
  | x :: xs => x.und n && belows n xs
def belowf (n : Nat) : List (String × D) → Bool
  | [] => true
  | (_, x) :: xs => x.und n && belowf n xs
end
def belowk (n : Nat) : List (Str × D) → Bool
  | [] => true
  | (_, x) :: xs => x.und n && belowk n xs
def Cell.und (n : Nat) : Cell → Bool
  | .dic es => belowk n es
  | .lst xs => belows n xs
  | .ins _ fs => belowf n fs
  | .dead => true
def Gh.cut (G : Gh) (n : Nat) : Gh := ⟨G.F, fun k => if k < n then G.f k else none⟩
theorem Gh.cut_some {G : Gh} {n k : Nat} {a : Addr} (h : (G.cut n).f k = some a) : k < n ∧ G.f k = some a := by
  have h' : (if k < n then G.f k else none) = some a := h
  by_cases q : k < n
  · rw [if_pos q] at h'
    exact ⟨q, h'⟩
  · rw [if_neg q] at h'
    cases h'
theorem Gh.cut_of {G : Gh} {n k : Nat} {a : Addr} (q : k < n) (h : G.f k = some a) : (G.cut n).f k = some a := by
  show (if k < n then G.f k else none) = some a
  rw [if_pos q]
  exact h
section
variable {K : PySem.W.Frag} {G G' : Gh} {n : Nat}
theorem Rp.cut {d : D} {v : V} (h : Rp K G d v) : d.und n = true → Rp K (G.cut n) d v :=
  Rp.rec (K := K) (G := G) (motive_1 := fun d v _ => d.und n = true → Rp K (G.cut n) d v) (motive_2 := fun xs vs _ => belows n xs = true → Rps K (G.cut n) xs vs) (motive_3 := fun fs ws _ => belowf n fs = true → Rpf K (G.cut n) fs ws)
    (fun _ => .non) (fun b _ => .bl b) (fun i _ => .int i) (fun x _ => .str x) (fun h _ r z => .tup h (r (by simpa [D.und] using z))) (fun h _ r z => .lst h (r (by simpa [D.und] using z))) (fun h _ r z => .obj h (r (by simpa [D.und] using z)))
    (fun h z => .loc (Gh.cut_of (by simpa [D.und] using z) h)) (fun c _ => .cls c) (fun c _ => .fnc c) (fun c _ => .ty c) (fun h _ r z => .src h (r (by simpa [D.und] using z))) (fun h _ => .dic0 h) (fun h _ => .hob h) (fun h _ => .exc0 h) (fun h hd _ r z => .exc h hd (r (by simpa [D.und] using z)))
    (fun _ => .nil) (fun _ _ a b z => by rw [belows, Bool.and_eq_true] at z; exact .cons (a z.1) (b z.2)) (fun _ => .nil) (fun _ _ a b z => by rw [belowf, Bool.and_eq_true] at z; exact .cons (a z.1) (b z.2)) h
theorem Rps.cut {xs : List D} {vs : List V} (h : Rps K G xs vs) (z : belows n xs = true) : Rps K (G.cut n) xs vs := by
  induction xs generalizing vs with
  | nil => cases h; exact .nil
  | cons x xs ih =>
    cases h with
    | cons a b => rw [belows, Bool.and_eq_true] at z; exact .cons (a.cut z.1) (ih b z.2)
theorem Rpf.cut {xs : List (String × D)} {vs : List (Str × V)} (h : Rpf K G xs vs) (z : belowf n xs = true) : Rpf K (G.cut n) xs vs := by
  induction xs generalizing vs with
  | nil => cases h; exact .nil
  | cons x xs ih =>
    cases h with
    | cons a b => rw [belowf, Bool.and_eq_true] at z; exact .cons (a.cut z.1) (ih b z.2)
theorem Rp.bel (dom : ∀ k a, G.f k = some a → k < n) {d : D} {v : V} (h : Rp K G d v) : d.und n = true :=
  Rp.rec (K := K) (G := G) (motive_1 := fun d v _ => d.und n = true) (motive_2 := fun xs vs _ => belows n xs = true) (motive_3 := fun fs ws _ => belowf n fs = true)
    rfl (fun _ => rfl) (fun _ => rfl) (fun _ => rfl) (fun h _ r => by rw [D.und]; exact r) (fun h _ r => by rw [D.und]; exact r) (fun h _ r => by rw [D.und]; exact r)
    (fun h => by rw [D.und]; exact decide_eq_true (dom _ _ h)) (fun _ => rfl) (fun _ => rfl) (fun _ => rfl) (fun h _ r => by rw [D.und]; exact r) (fun _ => rfl) (fun _ => rfl) (fun _ => rfl) (fun h hd _ r => by rw [D.und]; exact r)
    rfl (fun _ _ a b => by rw [belows, a, b]; rfl) rfl (fun _ _ a b => by rw [belowf, a, b]; rfl) h
theorem Rps.bel (dom : ∀ k a, G.f k = some a → k < n) {xs : List D} {vs : List V} (h : Rps K G xs vs) : belows n xs = true := by
  induction xs generalizing vs with
  | nil => rfl
  | cons x xs ih => cases h with | cons a b => rw [belows, a.bel dom, ih b]; rfl
theorem Rpf.bel (dom : ∀ k a, G.f k = some a → k < n) {xs : List (String × D)} {vs : List (Str × V)} (h : Rpf K G xs vs) : belowf n xs = true := by
  induction xs generalizing vs with
  | nil => rfl
  | cons x xs ih => cases h with | cons a b => rw [belowf, a.bel dom, ih b]; rfl
theorem Rpk.cut {es : List (Str × D)} {kvs : List (Key × V)} (h : Rpk K G es kvs) (z : belowk n es = true) : Rpk K (G.cut n) es kvs := by
  induction h with
  | nil => exact .nil
  | cons a _ ih => rw [belowk, Bool.and_eq_true] at z; exact .cons (a.cut z.1) (ih z.2)
theorem Rpk.bel (dom : ∀ k a, G.f k = some a → k < n) {es : List (Str × D)} {kvs : List (Key × V)} (h : Rpk K G es kvs) : belowk n es = true := by
  induction h with
  | nil => rfl
  | cons a _ ih => rw [belowk, a.bel dom, ih]; rfl
theorem CellOk.bel {H : Hp} {a : Addr} {c : Cell} (dom : ∀ k a, G.f k = some a → k < n) (h : CellOk K G H a c) : c.und n = true := by
  cases c with
  | lst xs => obtain ⟨vs, _, r⟩ := h; exact r.bel dom
  | ins c fs => obtain ⟨dx, ws, _, r⟩ := h; exact r.bel dom
  | dead => rfl
  | dic es => obtain ⟨kvs, _, r⟩ := h; exact r.bel dom
theorem CellOk.cut {H : Hp} {a : Addr} {c : Cell} (h : CellOk K G H a c) (z : c.und n = true) : CellOk K (G.cut n) H a c := by
  cases c with
  | lst xs => obtain ⟨vs, e, r⟩ := h; exact ⟨vs, e, r.cut z⟩
  | ins c fs => obtain ⟨dx, ws, e, r⟩ := h; exact ⟨dx, ws, e, r.cut z⟩
  | dead => trivial
  | dic es => obtain ⟨kvs, e, r⟩ := h; exact ⟨kvs, e, r.cut z⟩
end
/-- the cells of S are as they were, or lead to cells of S alone -/
def Kept (S S' : Sto) : Prop := ∀ i c, i < S.length → S'[i]? = some c → S[i]? = some c ∨ c.und S.length = true
open Classical in
noncomputable def gcO (S : Sto) (o : Out D) : Out D := match o with
  | .ok d S' => if d.und S.length = true ∧ Kept S S' then .ok d (S'.take S.length) else .ok d S'
  | .ex c fs S' => if belowf S.length fs = true ∧ Kept S S' then .ex c fs (S'.take S.length) else .ex c fs S'
  | .no => .no
theorem gc_len {S S' : Sto} {d : D} (h : S'.length = S.length) : gcO S (.ok d S') = .ok d S' := by
  classical
  show (if d.und S.length = true ∧ Kept S S' then Out.ok d ((S').take S.length) else .ok d (S')) = _
  split
  · rw [← h, List.take_length]
  · rfl
theorem gc_lenx {S S' : Sto} {c : String} {fs : List (String × D)} (h : S'.length = S.length) : gcO S (.ex c fs S') = .ex c fs S' := by
  classical
  show (if belowf S.length fs = true ∧ Kept S S' then Out.ex c fs ((S').take S.length) else .ex c fs (S')) = _
  split
  · rw [← h, List.take_length]
  · rfl
theorem gc_samex {S : Sto} {c : String} {fs : List (String × D)} : gcO S (.ex c fs S) = .ex c fs S := gc_lenx rfl
theorem Kept.app {S T : Sto} : Kept S (S ++ T) := fun i c h e => .inl (by rw [List.getElem?_append_left h] at e; exact e)
theorem gc_app {S T : Sto} {d : D} (h : d.und S.length = true) : gcO S (.ok d (S ++ T)) = .ok d S := by
  classical
  show (if d.und S.length = true ∧ Kept S (S ++ T) then Out.ok d ((S ++ T).take S.length) else .ok d (S ++ T)) = _
  rw [if_pos ⟨h, Kept.app⟩, List.take_left]
theorem Sm.cut {K : PySem.W.Frag} {G G' : Gh} {S S' : Sto} {H H' : Hp} (m : Sm K G S H) (m' : Sm K G' S' H') (hk : Kept S S') : Sm K (G'.cut S.length) (S'.take S.length) H' where
  fr := m'.fr
  cel := fun i c e nd => by
    have hi : i < S.length := by
      have := (List.getElem?_eq_some_iff.mp e).1
      rw [List.length_take] at this
      omega
    rw [List.getElem?_take_of_lt hi] at e
    obtain ⟨a, h1, h2, h3⟩ := m'.cel i c e nd
    refine ⟨a, Gh.cut_of hi h1, h2, h3.cut ?_⟩
    rcases hk i c hi e with q | q
    · obtain ⟨b, g1, g2, g3⟩ := m.cel i c q nd
      exact g3.bel m.dom
    · exact q
  dom := fun k a h => by
    obtain ⟨h1, h2⟩ := Gh.cut_some h
    have := m'.dom k a h2
    rw [List.length_take]
    omega
  inj := fun i j a h h' => m'.inj i j a (Gh.cut_some h).2 (Gh.cut_some h').2
  dn := fun i a h => m'.dn i a (Gh.cut_some h).2
  nt := m'.nt
  tb := m'.tb
theorem Sm.cut_le {K : PySem.W.Frag} {G G' : Gh} {S : Sto} {H H' : Hp} (m : Sm K G S H) (st : Stp G H G' H') : Stp G H (G'.cut S.length) H' := ⟨⟨st.le.1, fun k a h => Gh.cut_of (m.dom k a h) (st.le.2 k a h)⟩, st.dom, st.frm, fun n a h => st.new n a (Gh.cut_some h).2, st.fro⟩
/-! ### defs -/
def fin (o : Out Fl) : Out D := o.bind fun f S => match f with
  | .nx _ => .ok .non S
  | .rt d => .ok d S
  | _ => .no
/-- a def with np parameters and n slots -/
noncomputable def dfn (np n : Nat) (b : MS) : Fn := fun ds S => if ds.length = np then gcO S (fin (b (ds.map some ++ List.replicate (n - np) none) S)) else .no
def spO (K : PySem.W.Frag) (G : Gh) (H : Hp) (o : Out D) (Q : VK) (E : XK) : Prop := match o with
  | .ok d S' => ∀ G' H' v, Stp G H G' H' → Sm K G' S' H' → Rp K G' d v → Q v H'
  | .ex c fs S' => ∀ cls dd H', wEx K G H c fs S' cls dd H' → E cls dd H'
  | .no => False
def spF (K : PySem.W.Frag) (F : Fn) : Sp := fun vs H Q E => ∃ ds S G, Sm K G S H ∧ Rps K G ds vs ∧ spO K G H (F ds S) Q E
abbrev FnF (P : Program) (w : World) (K : PySem.W.Frag) (mg : Str → Option Value) (base : Heap) (k : Nat) (f : Addr) (F : Fn) : Prop := FnR P w K mg base (L2.CX P w) k f (spF K F)
abbrev FnFG (P : Program) (w : World) (K : PySem.W.Frag) (mg : Str → Option Value) (base : Heap) (k : Nat) (f : Addr) (F : Fn) : Prop := FnRG P w K mg base (L2.CX P w) k f (spF K F)
theorem ExR.cut {K : PySem.W.Frag} {G : Gh} {n : Nat} {c : String} {fs : List (String × D)} {cls : Value} {dd : Option Addr} (h : ExR K G c fs cls dd) (z : belowf n fs = true) : ExR K (G.cut n) c fs cls dd := by
  obtain ⟨h1, h2 | ⟨d, ws, h3, h4, h5⟩⟩ := h
  · exact ⟨h1, .inl h2⟩
  · exact ⟨h1, .inr ⟨d, ws, h3, h4, h5.cut z⟩⟩
theorem spO_gc {K : PySem.W.Frag} {G : Gh} {S : Sto} {H : Hp} {o : Out D} {Q : VK} {E : XK} (sm : Sm K G S H) (h : spO K G H (gcO S o) Q E) : spO K G H o Q E := by
  classical
  match o, h with
  | .ok d S', h =>
    intro G' H' v le sm' r
    by_cases c : d.und S.length = true ∧ Kept S S'
    · have e : gcO S (.ok d S') = .ok d (S'.take S.length) := if_pos c
      rw [e] at h
      exact h _ H' v (sm.cut_le le) (sm.cut sm' c.2) (r.cut c.1)
    · have e : gcO S (.ok d S') = .ok d S' := if_neg c
      rw [e] at h
      exact h G' H' v le sm' r
  | .ex x fs S', h =>
    intro cls dd H' w
    obtain ⟨G', le, sm', r⟩ := w
    by_cases c : belowf S.length fs = true ∧ Kept S S'
    · have e : gcO S (.ex x fs S') = .ex x fs (S'.take S.length) := if_pos c
      rw [e] at h
      exact h cls dd H' ⟨_, sm.cut_le le, sm.cut sm' c.2, r.cut c.1⟩
    · have e : gcO S (.ex x fs S') = .ex x fs S' := if_neg c
      rw [e] at h
      exact h cls dd H' ⟨G', le, sm', r⟩
  | .no, h => exact h
/-- how the body's end is the def's end -/
theorem sat_body {X : Cx} {G : Gh} {H : Hp} {K : PySem.W.Frag} {o : Out Fl} {Q : VK} {E : XK} (hK : X.K = K) (tk : Takes X (fun cls d _ H => E cls d H)) (h : spO K G H (fin o) Q E) :
    satS X G H o { nx := fun _ H' => Q .non H', rt := Q } := by
  subst hK
  match o, h with
  | .ok (.nx _) _, h => exact fun G' H' _ l s _ => h G' H' _ l s .non
  | .ok (.rt _) _, h => exact h
  | .ok (.bk _) _, h => exact h.elim
  | .ok (.ct _) _, h => exact h.elim
  | .ex _ _ _, h => exact tk.imp fun cls dd _ H' z => h cls dd H' z
  | .no, h => exact h.elim
section
variable {P : Program} {w : World} {K : PySem.W.Frag} {mg : Str → Option Value} {base : Heap} {x qual : Str} {st : Stmt} {kws : List (Str × V)} {f : Addr} {fd : FuncData} {N ps : List Str} {j : Nat} {b : MS}
theorem spF_len {np n : Nat} (hn : ps.length = np) : ∀ vs H Q E, spF K (dfn np n b) vs H Q E → vs.length = ps.length := fun vs H Q E ⟨ds, S, G, _, r, h⟩ => by
  by_cases q : ds.length = np
  · rw [r.length, q, hn]
  · unfold dfn at h
    rw [if_neg q] at h
    exact h.elim
theorem body_start {np n : Nat} {vs : List V} {H : Hp} {Q : VK} {E : XK} {X : Cx} (hK : X.K = K) (tk : Takes X (fun cls d _ H => E cls d H)) (hn : ps.length = np) (hN : N.length = n)
    (h : spF K (dfn np n b) vs H Q E) : tS X b { nx := fun _ H' => Q .non H', rt := Q } (start N vs) H := by
  have hl := spF_len (K := K) hn vs H Q E h
  obtain ⟨ds, S, G, sm, r, h⟩ := h
  have q : ds.length = np := by rw [← r.length, hl, hn]
  unfold dfn at h
  rw [if_pos q] at h
  refine ⟨_, S, G, by rw [hK]; exact sm, ?_, sat_body hK tk (spO_gc sm h)⟩
  unfold L2.start
  have e : N.length - vs.length = n - np := by rw [hN, hl, hn]
  rw [e, hK]
  exact Re.start r _
/-- THE RULE: a def by its body -/
theorem okF {np n : Nat} (F : FunD K x qual (defArgs st) (defBody st) (defScope st) [] kws f fd) (S : FnScope N ps (defScope st)) (hn : ps.length = np) (hN : N.length = n)
    (hb : ∀ (kV doc pm : Value) (an : Option Addr) (cdv ct : Value) (us : List Value), us.length = ps.length → bindArgs (PySem.W.fnOf x qual (defArgs st) (defBody st) (defScope st) .none kV doc pm an cdv ct) ⟨us, []⟩ = pure (ps.zip us))
    (hbody : ∀ (cdv : Value) (A : Around) (outer : List Env) (s : Shared) (H : Hp) (E : XK), Room j (A.deeper (envOfC qual (defScope st) s.heap.objs.size f cdv)) →
      QSs (cxOf (L2.CX P w) P w K mg base N qual (defScope st) f cdv A outer s H E) (defBody st) b) : FnF P w K mg base (j + 1) f (dfn np n b) := by
  have Fk : FnOk P w K mg base (L2.CX P w) (j + 1) f fd ps (spF K (dfn np n b)) := F.ok S (spF_len hn) fun cdv A outer s H vs Q E hr h =>
    ⟨_, hbody cdv A outer s H E hr, body_start rfl (takes_of rfl rfl rfl rfl) hn hN h⟩
  exact (Fk.raw (F.bindsN hb) .nil).imp fun vs H Q E h => by rw [List.append_nil]; exact h
/-- .. called where no repr is running -/
theorem okFG {np n : Nat} (F : FunD K x qual (defArgs st) (defBody st) (defScope st) [] kws f fd) (S : FnScope N ps (defScope st)) (hn : ps.length = np) (hN : N.length = n)
    (hb : ∀ (kV doc pm : Value) (an : Option Addr) (cdv ct : Value) (us : List Value), us.length = ps.length → bindArgs (PySem.W.fnOf x qual (defArgs st) (defBody st) (defScope st) .none kV doc pm an cdv ct) ⟨us, []⟩ = pure (ps.zip us))
    (hbody : ∀ (cdv : Value) (A : Around) (outer : List Env) (s : Shared) (H : Hp) (E : XK), A.guards = some [] → Room j (A.deeper (envOfC qual (defScope st) s.heap.objs.size f cdv)) →
      QSs (cxOf (L2.CX P w) P w K mg base N qual (defScope st) f cdv A outer s H E) (defBody st) b) : FnFG P w K mg base (j + 1) f (dfn np n b) := by
  have Fk : FnG P w K mg base (L2.CX P w) (j + 1) f fd ps (spF K (dfn np n b)) := okG F S (spF_len hn) fun cdv A outer s H vs Q E hg hr h =>
    ⟨_, hbody cdv A outer s H E hg hr, body_start rfl (takes_of rfl rfl rfl rfl) hn hN h⟩
  intro A outer s H us vs Q E hg hr e0 r h
  have hl : us.length = ps.length := r.length ▸ Fk.len _ _ _ _ h
  have bb := F.bindsN hb s us (e0.mod.kin.keeps fun b o e => (e0.bs b o e).1) (by simpa using hl)
  exact Fk.run A outer s H ⟨us, []⟩ us vs Q E hg hr e0 (by simpa using bb) r h
end
end PV
set_option Elab.async false
set_option linter.all false
set_option maxRecDepth 100000
set_option maxHeartbeats 4000000
namespace PV
open PySem PySem.Spec PyProof.Rows L2 ZL
/-! ### operations by values -/
abbrev G1 := D → Sto → Out D
abbrev G2 := D → D → Sto → Out D
def OpF (X : Cx) (f : Value → Value → Sem Value) (g : G2) : Prop := OpR X f (fun v w H Q => ∃ x y S G, Sm X.K G S H ∧ Rp X.K G x v ∧ Rp X.K G y w ∧ sat X (Rp X.K) G H (g x y S) Q)
def UnF (X : Cx) (f : Value → Sem Value) (g : G1) : Prop := UnR X f (fun v H Q => ∃ x S G, Sm X.K G S H ∧ Rp X.K G x v ∧ sat X (Rp X.K) G H (g x S) Q)
def CallF (X : Cx) (f : Value) (g : Fn) : Prop := CallR X f (fun vs H Q => ∃ ds S G, Sm X.K G S H ∧ Rps X.K G ds vs ∧ sat X (Rp X.K) G H (g ds S) Q)
def bin (g : G2) (a b : ME) : ME := fun ρ S => (a ρ S).bind fun x S1 => (b ρ S1).bind fun y S2 => g x y S2
def una (g : G1) (a : ME) : ME := fun ρ S => (a ρ S).bind fun x S1 => g x S1
def cal (g : Fn) (a : MA) : ME := fun ρ S => (a ρ S).bind fun ds S1 => g ds S1
/-- a op b op' c -/
def chn (g g' : G2) (a b c : ME) : ME := fun ρ S => (a ρ S).bind fun x S1 => (b ρ S1).bind fun y S2 => (g x y S2).bind fun z S3 => match z with
  | .bl true => (c ρ S3).bind fun u S4 => g' y u S4
  | .bl false => .ok (.bl false) S3
  | _ => .no
def isB (o : Out D) : Out Bool := o.bind fun d S => match d with
  | .bl b => .ok b S
  | _ => .no
section
variable {X : Cx} {a b c : Expr} {ma mb mc : ME} {g g' : G2} {pos : Pos}
theorem op2 {f : Value → Value → Sem Value} (ho : OpF X f g) {ta tb : TE} {ρ : Ev} {S : Sto} {G : Gh} {σ : L2.St} {H : Hp} {Q : VK} (sm : Sm X.K G S H) (re : Re X.K G ρ σ) (h : sat X (Rp X.K) G H (bin g ma mb ρ S) Q) :
    tOp (fun v w H Q => ∃ x y S G, Sm X.K G S H ∧ Rp X.K G x v ∧ Rp X.K G y w ∧ sat X (Rp X.K) G H (g x y S) Q) (tE X ma) (tE X mb) σ H Q := by
  refine ⟨ρ, S, G, sm, re, (sat.bind h).imp fun v H1 w => ?_⟩
  obtain ⟨x, S1, G1, le1, sm1, r1, q1⟩ := w
  refine ⟨ρ, S1, G1, sm1, re.mono le1.le, (sat.bind q1).imp fun v' H2 w => ?_⟩
  obtain ⟨y, S2, G2, le2, sm2, r2, q2⟩ := w
  exact ⟨x, y, S2, G2, sm2, r1.mono le2.le, r2, q2⟩
theorem qe_bin {op : Operator} (ho : OpF X (binaryOp op) g) (ha : QE X a ma) (hb : QE X b mb) : QE X (.BinOp a op b pos) (bin g ma mb) :=
  qe_of (pe_op ho ha hb) fun ρ S G σ H Q sm re h => op2 (ta := tE X ma) (tb := tE X mb) ho sm re h
theorem qe_cmp {op : CmpOp} (ho : OpF X (compareOp op) g) (ha : QE X a ma) (hb : QE X b mb) (hm : behindInMarks op b = false := by first | exact nomark _ | with_unfolding_all rfl) : QE X (.Compare a [op] [b] pos) (bin g ma mb) :=
  qe_of (pe_cmpR ho ha hb hm) fun ρ S G σ H Q sm re h => op2 (ta := tE X ma) (tb := tE X mb) ho sm re h
theorem sat_isB {G : Gh} {o : Out D} {Q : Bool → Hp → Prop} (h : sat X (fun _ a b => a = b) G H (isB o) Q) : sat X (Rp X.K) G H o (fun v H => ∃ c, v = .bl c ∧ Q c H) := by
  match o, h with
  | .ok (.bl c) S, h => exact fun G' H' v le sm r => by cases r; exact ⟨c, rfl, h G' H' c le sm rfl⟩
  | .ok .non _, h => exact h.elim
  | .ok (.int _) _, h => exact h.elim
  | .ok (.str _) _, h => exact h.elim
  | .ok (.tup _) _, h => exact h.elim
  | .ok (.lst _) _, h => exact h.elim
  | .ok (.obj _ _) _, h => exact h.elim
  | .ok (.loc _) _, h => exact h.elim
  | .ok (.cls _) _, h => exact h.elim
  | .ok (.fnc _) _, h => exact h.elim
  | .ok (.ty _) _, h => exact h.elim
  | .ok (.src _) _, h => exact h.elim
  | .ok .dic0 _, h => exact h.elim
  | .ok (.hob _) _, h => exact h.elim
  | .ok (.exc _ _) _, h => exact h.elim
  | .ex _ _ _, h => exact h
  | .no, h => exact h.elim
/-- a comparison as a test -/
def tst (m : ME) : MT := fun ρ S => isB (m ρ S)
theorem tst_bin {f : Value → Value → Sem Value} (ho : OpF X f g) {ρ : Ev} {S : Sto} {G : Gh} {σ : L2.St} {H : Hp} {Q : Bool → Hp → Prop} (sm : Sm X.K G S H) (re : Re X.K G ρ σ) (h : sat X (fun _ a b => a = b) G H (tst (bin g ma mb) ρ S) Q) :
    tTest (tOp (fun v w H Q => ∃ x y S G, Sm X.K G S H ∧ Rp X.K G x v ∧ Rp X.K G y w ∧ sat X (Rp X.K) G H (g x y S) Q) (tE X ma) (tE X mb)) σ H Q :=
  op2 (ta := tE X ma) (tb := tE X mb) ho sm re (sat_isB h)
theorem qt_cmp {op : CmpOp} (ho : OpF X (compareOp op) g) (ha : QE X a ma) (hb : QE X b mb) (hm : behindInMarks op b = false := by first | exact nomark _ | with_unfolding_all rfl) : QT X (.Compare a [op] [b] pos) (tst (bin g ma mb)) :=
  qt_of (pt_cmpR ho ha hb hm) fun ρ S G σ H Q sm re h => tst_bin ho sm re h
theorem chn_rd {f f' : Value → Value → Sem Value} (ho : OpF X f g) (ho' : OpF X f' g') {ρ : Ev} {S : Sto} {G : Gh} {σ : L2.St} {H : Hp} {Q : VK} (sm : Sm X.K G S H) (re : Re X.K G ρ σ) (h : sat X (Rp X.K) G H (chn g g' ma mb mc ρ S) Q) :
    tChain (fun v w H Q => ∃ x y S G, Sm X.K G S H ∧ Rp X.K G x v ∧ Rp X.K G y w ∧ sat X (Rp X.K) G H (g x y S) Q) (fun v w H Q => ∃ x y S G, Sm X.K G S H ∧ Rp X.K G x v ∧ Rp X.K G y w ∧ sat X (Rp X.K) G H (g' x y S) Q) (tE X ma) (tE X mb) (tE X mc) σ H Q := by
  refine ⟨ρ, S, G, sm, re, (sat.bind h).imp fun v H1 w => ?_⟩
  obtain ⟨x, S1, G1, le1, sm1, r1, q1⟩ := w
  refine ⟨ρ, S1, G1, sm1, re.mono le1.le, (sat.bind q1).imp fun v' H2 w => ?_⟩
  obtain ⟨y, S2, G2, le2, sm2, r2, q2⟩ := w
  refine ⟨x, y, S2, G2, sm2, r1.mono le2.le, r2, (sat.bind q2).imp fun v3 H3 w => ?_⟩
  obtain ⟨z, S3, G3, le3, sm3, r3, q3⟩ := w
  cases r3 with
  | bl k =>
    refine ⟨k, rfl, ?_⟩
    cases k with
    | true =>
      refine ⟨ρ, S3, G3, sm3, (re.mono le1.le).mono (le2.trans le3).le, (sat.bind q3).imp fun v4 H4 w => ?_⟩
      obtain ⟨u, S4, G4, le4, sm4, r4, q4⟩ := w
      exact ⟨y, u, S4, G4, sm4, (r2.mono le3.le).mono le4.le, r4, q4⟩
    | false => exact q3 G3 H3 _ .refl sm3 (.bl false)
  | _ => exact q3.elim
theorem qe_chn {op op' : CmpOp} (ho : OpF X (compareOp op) g) (ho' : OpF X (compareOp op') g') (ha : QE X a ma) (hb : QE X b mb) (hc : QE X c mc) (hm : lastMarks [op, op'] [b, c] = false := by with_unfolding_all rfl) : QE X (.Compare a [op, op'] [b, c] pos) (chn g g' ma mb mc) :=
  qe_of (pe_chain ho ho' ha hb hc hm) fun ρ S G σ H Q sm re h => chn_rd ho ho' sm re h
theorem qt_chn {op op' : CmpOp} (ho : OpF X (compareOp op) g) (ho' : OpF X (compareOp op') g') (ha : QE X a ma) (hb : QE X b mb) (hc : QE X c mc) (hm : lastMarks [op, op'] [b, c] = false := by with_unfolding_all rfl) : QT X (.Compare a [op, op'] [b, c] pos) (tst (chn g g' ma mb mc)) :=
  qt_of (pt_chain ho ho' ha hb hc hm) fun ρ S G σ H Q sm re h => chn_rd ho ho' sm re (sat_isB h)
theorem qe_un {op : UnaryOp} {g : G1} (ho : UnF X (unaryOp op) g) (ha : QE X a ma) : QE X (.UnaryOp op a pos) (una g ma) :=
  qe_of (pe_un ho ha) fun ρ S G σ H Q sm re h => by
    refine ⟨ρ, S, G, sm, re, (sat.bind h).imp fun v H1 w => ?_⟩
    obtain ⟨x, S1, G1, le1, sm1, r1, q1⟩ := w
    exact ⟨x, S1, G1, sm1, r1, q1⟩
end
/-! ### truth, and, or, not, if -/
def truD (d : D) : Option Bool := match d with
  | .non => some false
  | .bl b => some b
  | .int i => some (i != 0)
  | .str x => if x.length ≤ sizeLine then some ((x.length : Int) != 0) else none
  | .tup xs => some (!xs.isEmpty)
  | .lst xs => some (!xs.isEmpty)
  | _ => none
def tru (m : ME) : MT := fun ρ S => (m ρ S).bind fun d S1 => match truD d with
  | some b => .ok b S1
  | none => .no
def tNo (t : MT) : MT := fun ρ S => (t ρ S).bind fun c S1 => .ok (!c) S1
def tAn (t u : MT) : MT := fun ρ S => (t ρ S).bind fun c S1 => if c = true then u ρ S1 else .ok false S1
def tOr (t u : MT) : MT := fun ρ S => (t ρ S).bind fun c S1 => if c = true then .ok true S1 else u ρ S1
def ifE (t : MT) (a b : ME) : ME := fun ρ S => (t ρ S).bind fun c S1 => if c = true then a ρ S1 else b ρ S1
def anE (a b : ME) : ME := fun ρ S => (a ρ S).bind fun d S1 => match d with
  | .bl true => b ρ S1
  | .bl false => .ok (.bl false) S1
  | _ => .no
def orE (a b : ME) : ME := fun ρ S => (a ρ S).bind fun d S1 => match d with
  | .bl true => .ok (.bl true) S1
  | .bl false => b ρ S1
  | _ => .no
def noE (a : ME) : ME := fun ρ S => (a ρ S).bind fun d S1 => match d with
  | .bl b => .ok (.bl (!b)) S1
  | _ => .no
theorem Rps.isEmpty {K : PySem.W.Frag} {G : Gh} {xs : List D} {vs : List V} (h : Rps K G xs vs) : vs.isEmpty = xs.isEmpty := by cases h <;> rfl
section
variable {X : Cx} {a b c : Expr} {rest : List Expr} {ma mb : ME} {t u : MT} {pos : Pos}
theorem truV {G : Gh} {S : Sto} {H : Hp} {d : D} {v : V} {k : Bool} (sm : Sm X.K G S H) (r : Rp X.K G d v) (e : truD d = some k) : TruV X.K v H k := by
  cases r with
  | non => exact (Option.some.inj e).symm
  | bl b => exact (Option.some.inj e).symm
  | int i => exact (Option.some.inj e).symm
  | str x =>
    have e' : (if x.length ≤ sizeLine then some ((x.length : Int) != 0) else none) = some k := e
    by_cases q : x.length ≤ sizeLine
    · rw [if_pos q] at e'
      exact ⟨q, (Option.some.inj e').symm⟩
    · rw [if_neg q] at e'
      cases e'
  | tup h r => exact .inr (.inl ⟨_, SqT.mono h sm.fr, by rw [r.isEmpty]; exact (Option.some.inj e).symm⟩)
  | lst h r => exact .inl ⟨_, SqL.of (sm.fr _ _ h), by rw [r.isEmpty]; exact (Option.some.inj e).symm⟩
  | _ => cases e
theorem qt_tru (ha : QE X a ma) (he : ∀ whole, isTrue a X.env whole = (do let v ← whole; standAt a.pos; holding [v] (truthy v)) := by intro _; rfl) : QT X a (tru ma) :=
  qt_of (pt_truth ha he) fun ρ S G σ H Q sm re h => by
    refine ⟨ρ, S, G, sm, re, (sat.bind h).imp fun v H1 w => ?_⟩
    obtain ⟨d, S1, G1, le1, sm1, r1, q1⟩ := w
    match e : truD d, q1 with
    | some k, q1 => exact ⟨k, truV sm1 r1 e, q1 G1 H1 k .refl sm1 rfl⟩
    | none, q1 => exact q1.elim
theorem qt_not (h : QT X a t) : QT X (.UnaryOp .Not a pos) (tNo t) := qt_of (pt_not h) fun ρ S G σ H Q sm re h => by
  refine ⟨ρ, S, G, sm, re, (sat.bind h).imp fun v H1 w => ?_⟩
  obtain ⟨d, S1, G1, le1, sm1, r1, q1⟩ := w
  subst r1
  exact q1 G1 H1 _ .refl sm1 rfl
/-- and, or as tests: whatever the whole is -/
abbrev QW (X : Cx) (e : Expr) (m : MT) : Prop := PW X e (tT X m)
theorem qw_of {t : TT} {m : MT} {e : Expr} (h : PW X e t) (i : ∀ ρ S G σ H Q, Sm X.K G S H → Re X.K G ρ σ → sat X (fun _ a b => a = b) G H (m ρ S) Q → t σ H Q) : QW X e m :=
  ⟨fun wh pins s σ H Q I ⟨ρ, S, G, sm, re, q⟩ => h.run wh pins s σ H Q I (i ρ S G σ H Q sm re q)⟩
theorem qw_and1 (h : QT X a t) : QW X (.BoolOp .And [a] pos) t := pw_and1 h
theorem qw_or1 (h : QT X a t) : QW X (.BoolOp .Or [a] pos) t := pw_or1 h
theorem qw_and (h : QT X a t) (h' : QW X (.BoolOp .And (b :: rest) pos) u) : QW X (.BoolOp .And (a :: b :: rest) pos) (tAn t u) := qw_of (pw_and h h') fun ρ S G σ H Q sm re h => by
  refine ⟨ρ, S, G, sm, re, (sat.bind h).imp fun v H1 w => ?_⟩
  obtain ⟨d, S1, G1, le1, sm1, r1, q1⟩ := w
  subst r1
  cases d with
  | true => exact ⟨ρ, S1, G1, sm1, re.mono le1.le, q1⟩
  | false => exact q1 G1 H1 _ .refl sm1 rfl
theorem qw_or (h : QT X a t) (h' : QW X (.BoolOp .Or (b :: rest) pos) u) : QW X (.BoolOp .Or (a :: b :: rest) pos) (tOr t u) := qw_of (pw_or h h') fun ρ S G σ H Q sm re h => by
  refine ⟨ρ, S, G, sm, re, (sat.bind h).imp fun v H1 w => ?_⟩
  obtain ⟨d, S1, G1, le1, sm1, r1, q1⟩ := w
  subst r1
  cases d with
  | false => exact ⟨ρ, S1, G1, sm1, re.mono le1.le, q1⟩
  | true => exact q1 G1 H1 _ .refl sm1 rfl
theorem qt_w {e : Expr} (h : QW X e t) : QT X e t := h.pt
theorem qe_if {c : Expr} (hc : QT X c t) (ha : QE X a ma) (hb : QE X b mb) : QE X (.IfExp c a b pos) (ifE t ma mb) := qe_of (pe_ifExp hc ha hb) fun ρ S G σ H Q sm re h => by
  refine ⟨ρ, S, G, sm, re, (sat.bind h).imp fun v H1 w => ?_⟩
  obtain ⟨d, S1, G1, le1, sm1, r1, q1⟩ := w
  subst r1
  cases d with
  | true => exact ⟨ρ, S1, G1, sm1, re.mono le1.le, q1⟩
  | false => exact ⟨ρ, S1, G1, sm1, re.mono le1.le, q1⟩
theorem qe_one {op : BoolOp} (h : QE X a ma) : QE X (.BoolOp op [a] pos) ma := pe_one h
theorem qe_and (ha : QE X a ma) (hb : QE X (.BoolOp .And (b :: rest) pos) mb) : QE X (.BoolOp .And (a :: b :: rest) pos) (anE ma mb) := qe_of (pe_and ha hb) fun ρ S G σ H Q sm re h => by
  refine ⟨ρ, S, G, sm, re, (sat.bind h).imp fun v H1 w => ?_⟩
  obtain ⟨d, S1, G1, le1, sm1, r1, q1⟩ := w
  cases r1 with
  | bl k =>
    refine ⟨k, rfl, ?_⟩
    cases k with
    | true => exact ⟨ρ, S1, G1, sm1, re.mono le1.le, q1⟩
    | false => exact q1 G1 H1 _ .refl sm1 (.bl _)
  | _ => exact q1.elim
theorem qe_or (ha : QE X a ma) (hb : QE X (.BoolOp .Or (b :: rest) pos) mb) : QE X (.BoolOp .Or (a :: b :: rest) pos) (orE ma mb) := qe_of (pe_or ha hb) fun ρ S G σ H Q sm re h => by
  refine ⟨ρ, S, G, sm, re, (sat.bind h).imp fun v H1 w => ?_⟩
  obtain ⟨d, S1, G1, le1, sm1, r1, q1⟩ := w
  cases r1 with
  | bl k =>
    refine ⟨k, rfl, ?_⟩
    cases k with
    | false => exact ⟨ρ, S1, G1, sm1, re.mono le1.le, q1⟩
    | true => exact q1 G1 H1 _ .refl sm1 (.bl _)
  | _ => exact q1.elim
theorem qe_not (ha : QE X a ma) : QE X (.UnaryOp .Not a pos) (noE ma) := qe_of (pe_not ha) fun ρ S G σ H Q sm re h => by
  refine ⟨ρ, S, G, sm, re, (sat.bind h).imp fun v H1 w => ?_⟩
  obtain ⟨d, S1, G1, le1, sm1, r1, q1⟩ := w
  cases r1 with
  | bl k => exact ⟨k, rfl, q1 G1 H1 _ .refl sm1 (.bl _)⟩
  | _ => exact q1.elim
end
end PV
set_option Elab.async false
set_option linter.all false
set_option maxRecDepth 100000
set_option maxHeartbeats 4000000
namespace PV
open PySem PySem.Spec PyProof.Rows L2 ZL
/-! ### plain data -/
mutual
def toP : D → Option PyData
  | .non => some .none
  | .bl b => some (.bool b)
  | .int i => some (.int i)
  | .str x => some (.str x)
  | .tup xs => (toPs xs).map .tuple
  | .lst xs => (toPs xs).map .list
  | .src xs => (toPs xs).map .list
  | .dic0 => none
  | .hob _ => none
  | .exc _ _ => none
  | .obj _ _ => none
  | .loc _ => none
  | .cls _ => none
  | .fnc _ => none
  | .ty _ => none
def toPs : List D → Option (List PyData)
  | [] => some []
  | x :: xs => match toP x, toPs xs with
    | some p, some ps => some (p :: ps)
    | _, _ => none
end
section
variable {K : PySem.W.Frag} {G : Gh} {H : Hp}
mutual
theorem Rp.dp (e : ∀ a o, G.F a = some o → H a = some o) : ∀ (d : D) (v : V) (p : PyData), Rp K G d v → toP d = some p → Dp K H v p
  | .non, _, _, r, h => by cases r; cases h; exact .non
  | .bl _, _, _, r, h => by cases r; cases h; exact .bl _
  | .int _, _, _, r, h => by cases r; cases h; exact .int _
  | .str _, _, _, r, h => by cases r; cases h; exact .str _
  | .tup xs, _, _, r, h => by
    cases r with
    | tup q r =>
      unfold toP at h
      match hp : toPs xs, h with
      | some ps, h => cases h; exact .tup (SqT.mono q e) (Rps.dp e xs _ ps r hp)
      | none, h => cases h
  | .lst xs, _, _, r, h => by
    cases r with
    | lst q r =>
      unfold toP at h
      match hp : toPs xs, h with
      | some ps, h => cases h; exact .lst (SqL.of (e _ _ q)) (Rps.dp e xs _ ps r hp)
      | none, h => cases h
  | .src xs, _, _, r, h => by
    cases r with
    | src q r =>
      unfold toP at h
      match hp : toPs xs, h with
      | some ps, h => cases h; exact .lst (SqL.mono q e) (Rps.dp e xs _ ps r hp)
      | none, h => cases h
  | .obj _ _, _, _, _, h => by simp [toP] at h
  | .dic0, _, _, _, h => by simp [toP] at h
  | .hob _, _, _, _, h => by simp [toP] at h
  | .exc _ _, _, _, _, h => by simp [toP] at h
  | .loc _, _, _, _, h => by simp [toP] at h
  | .cls _, _, _, _, h => by simp [toP] at h
  | .fnc _, _, _, _, h => by simp [toP] at h
  | .ty _, _, _, _, h => by simp [toP] at h
theorem Rps.dp (e : ∀ a o, G.F a = some o → H a = some o) : ∀ (xs : List D) (vs : List V) (ps : List PyData), Rps K G xs vs → toPs xs = some ps → DpAll K H vs ps
  | [], _, _, r, h => by cases r; cases h; exact .nil
  | x :: xs, _, _, r, h => by
    cases r with
    | cons r1 r2 =>
      unfold toPs at h
      match h1 : toP x, h2 : toPs xs, h with
      | some p, some ps, h => cases h; exact .cons (Rp.dp e x _ p r1 h1) (Rps.dp e xs _ ps r2 h2)
      | none, some _, h => cases h
      | none, none, h => cases h
      | some _, none, h => cases h
end
end
/-- x == y of plain data -/
def eqP (x y : D) : Option Bool := match toP x, toP y with
  | some p, some q => if SeqAt.shaped p = true ∧ SeqAt.shaped q = true then some (PyData.eqv p q) else none
  | _, _ => none
def eqD (x y : D) : Option Bool := match x, y with
  | .str a, .str b => some (decide (a = b))
  | x, y => eqP x y
def eqG (neg : Bool) : G2 := fun x y S => match eqD x y with
  | some b => .ok (.bl (neg ^^ b)) S
  | none => .no
theorem eqP_some {x y : D} {b : Bool} (h : eqP x y = some b) : ∃ p q, toP x = some p ∧ toP y = some q ∧ SeqAt.shaped p = true ∧ SeqAt.shaped q = true ∧ b = PyData.eqv p q := by
  unfold eqP at h
  match h1 : toP x, h2 : toP y, h with
  | some p, some q, h =>
    simp only at h
    by_cases c : SeqAt.shaped p = true ∧ SeqAt.shaped q = true
    · rw [if_pos c] at h
      exact ⟨p, q, rfl, rfl, c.1, c.2, (Option.some.inj h).symm⟩
    · rw [if_neg c] at h
      cases h
  | none, _, h => cases h
  | some _, none, h => cases h
section
variable {X : Cx}
theorem dec_strV {a b : Str} : decide (V.str a = V.str b) = decide (a = b) := by
  rw [Bool.eq_iff_iff]
  simp
theorem of_eq (hu : X.A.units + 64 < cLine) : OpF X (compareOp .Eq) (eqG false) := fun pins s σ H v w u u' Q I rv rw' ⟨x, y, S, G, sm, rx, ry, h⟩ => by
  unfold eqG at h
  match e : eqD x y, h with
  | some b, h =>
    unfold eqD at e
    split at e
    · cases rx
      cases ry
      cases e
      exact op_eq pins s σ H _ _ u u' Q I rv rw' ⟨rfl, h G H _ .refl sm (by rw [dec_strV, Bool.false_xor]; exact .bl _)⟩
    · obtain ⟨p, q, h1, h2, h3, h4, rfl⟩ := eqP_some e
      exact op_eqD hu pins s σ H v w u u' Q I rv rw' ⟨p, q, Rp.dp sm.fr x v p rx h1, Rp.dp sm.fr y w q ry h2, h3, h4, h G H _ .refl sm (by rw [Bool.false_xor]; exact .bl _)⟩
  | none, h => exact h.elim
theorem of_ne (hu : X.A.units + 64 < cLine) : OpF X (compareOp .NotEq) (eqG true) := fun pins s σ H v w u u' Q I rv rw' ⟨x, y, S, G, sm, rx, ry, h⟩ => by
  unfold eqG at h
  match e : eqD x y, h with
  | some b, h =>
    unfold eqD at e
    split at e
    · cases rx
      cases ry
      cases e
      exact op_ne pins s σ H _ _ u u' Q I rv rw' ⟨rfl, h G H _ .refl sm (by rw [dec_strV, Bool.true_xor]; exact .bl _)⟩
    · obtain ⟨p, q, h1, h2, h3, h4, rfl⟩ := eqP_some e
      exact op_neD hu pins s σ H v w u u' Q I rv rw' ⟨p, q, Rp.dp sm.fr x v p rx h1, Rp.dp sm.fr y w q ry h2, h3, h4, h G H _ .refl sm (by rw [Bool.true_xor]; exact .bl _)⟩
  | none, h => exact h.elim
end
/-! ### order of ints, of texts -/
def strLt (a b : Str) : Bool := decide (a.cps.toList < b.cps.toList)
def ltG : G2 := fun x y S => match x, y with
  | .int i, .int j => .ok (.bl (decide (i < j))) S
  | .str a, .str b => .ok (.bl (strLt a b)) S
  | _, _ => .no
def leG : G2 := fun x y S => match x, y with
  | .int i, .int j => .ok (.bl (decide (i ≤ j))) S
  | .str a, .str b => .ok (.bl (!strLt b a)) S
  | _, _ => .no
def gtG : G2 := fun x y S => match x, y with
  | .int i, .int j => .ok (.bl (decide (j < i))) S
  | .str a, .str b => .ok (.bl (strLt b a)) S
  | _, _ => .no
def geG : G2 := fun x y S => match x, y with
  | .int i, .int j => .ok (.bl (decide (j ≤ i))) S
  | .str a, .str b => .ok (.bl (!strLt a b)) S
  | _, _ => .no
section
variable {X : Cx}
theorem of_lt : OpF X (compareOp .Lt) ltG := fun pins s σ H v w u u' Q I rv rw' ⟨x, y, S, G, sm, rx, ry, h⟩ => by
  unfold ltG at h
  split at h
  · cases rx; cases ry; exact op_lt pins s σ H _ _ u u' Q I rv rw' ⟨_, _, rfl, rfl, h G H _ .refl sm (.bl _)⟩
  · cases rx; cases ry; exact op_lt_str pins s σ H _ _ u u' Q I rv rw' ⟨_, _, rfl, rfl, h G H _ .refl sm (.bl _)⟩
  · exact h.elim
theorem of_le : OpF X (compareOp .LtE) leG := fun pins s σ H v w u u' Q I rv rw' ⟨x, y, S, G, sm, rx, ry, h⟩ => by
  unfold leG at h
  split at h
  · cases rx; cases ry; exact op_le pins s σ H _ _ u u' Q I rv rw' ⟨_, _, rfl, rfl, h G H _ .refl sm (.bl _)⟩
  · cases rx; cases ry; exact op_le_str pins s σ H _ _ u u' Q I rv rw' ⟨_, _, rfl, rfl, h G H _ .refl sm (.bl _)⟩
  · exact h.elim
theorem of_gt : OpF X (compareOp .Gt) gtG := fun pins s σ H v w u u' Q I rv rw' ⟨x, y, S, G, sm, rx, ry, h⟩ => by
  unfold gtG at h
  split at h
  · cases rx; cases ry; exact op_gt pins s σ H _ _ u u' Q I rv rw' ⟨_, _, rfl, rfl, h G H _ .refl sm (.bl _)⟩
  · cases rx; cases ry; exact op_gt_str pins s σ H _ _ u u' Q I rv rw' ⟨_, _, rfl, rfl, h G H _ .refl sm (.bl _)⟩
  · exact h.elim
theorem of_ge : OpF X (compareOp .GtE) geG := fun pins s σ H v w u u' Q I rv rw' ⟨x, y, S, G, sm, rx, ry, h⟩ => by
  unfold geG at h
  split at h
  · cases rx; cases ry; exact op_ge pins s σ H _ _ u u' Q I rv rw' ⟨_, _, rfl, rfl, h G H _ .refl sm (.bl _)⟩
  · cases rx; cases ry; exact op_ge_str pins s σ H _ _ u u' Q I rv rw' ⟨_, _, rfl, rfl, h G H _ .refl sm (.bl _)⟩
  · exact h.elim
end
/-! ### is None -/
def isNon : D → Bool
  | .non => true
  | _ => false
def isG (neg : Bool) : G2 := fun x y S => match y with
  | .non => .ok (.bl (neg ^^ isNon x)) S
  | _ => .no
theorem isNon_rp {K : PySem.W.Frag} {G : Gh} {d : D} {v : V} (r : Rp K G d v) : decide (v = .non) = isNon d := by cases r <;> simp [isNon]
section
variable {X : Cx}
theorem of_is : OpF X (compareOp .Is) (isG false) := fun pins s σ H v w u u' Q I rv rw' ⟨x, y, S, G, sm, rx, ry, h⟩ => by
  unfold isG at h
  split at h
  · cases ry; exact op_isN pins s σ H _ _ u u' Q I rv rw' ⟨rfl, h G H _ .refl sm (by rw [isNon_rp rx, Bool.false_xor]; exact .bl _)⟩
  · exact h.elim
theorem of_isnot : OpF X (compareOp .IsNot) (isG true) := fun pins s σ H v w u u' Q I rv rw' ⟨x, y, S, G, sm, rx, ry, h⟩ => by
  unfold isG at h
  split at h
  · cases ry; exact op_notN pins s σ H _ _ u u' Q I rv rw' ⟨rfl, h G H _ .refl sm (by rw [isNon_rp rx, Bool.true_xor]; exact .bl _)⟩
  · exact h.elim
end
/-! ### in -/
def strIn (a b : Str) : Bool := !(Builtin.Str.occurrences b a 0 b.length 1).isEmpty
def inD (x y : D) : Option Bool := match y with
  | .str b => match x with
    | .str a => some (strIn a b)
    | _ => none
  | .tup ys => match toP x, toPs ys with
    | some p, some qs => if flat p = true ∧ qs.all flat = true then some (qs.any fun q => PyData.eqv q p) else none
    | _, _ => none
  | .lst ys => match toP x, toPs ys with
    | some p, some qs => if SeqAt.shaped p = true ∧ SeqAt.shaped (.list qs) = true then some (qs.any fun q => PyData.eqv q p) else none
    | _, _ => none
  | _ => none
where flat : PyData → Bool
  | .none => true
  | .bool _ => true
  | .int _ => true
  | .str _ => true
  | _ => false
def inG (neg : Bool) : G2 := fun x y S => match inD x y with
  | some b => .ok (.bl (neg ^^ b)) S
  | none => .no
section
variable {K : PySem.W.Frag} {G : Gh} {H : Hp}
theorem dp_flat {v : V} {p : PyData} (h : Dp K H v p) (f : inD.flat p = true) : flatV v = true := by cases h <;> first | rfl | cases f
theorem dp_eqV {v w : V} {p q : PyData} (h : Dp K H v p) (h' : Dp K H w q) (f : inD.flat p = true) (f' : inD.flat q = true) : eqV v w = PyData.eqv p q := by
  cases h <;> cases h' <;> first | rfl | (cases f; done) | (cases f'; done) | simp [eqV, PyData.eqv]
theorem dpAll_flat : ∀ {vs : List V} {ps : List PyData}, DpAll K H vs ps → ps.all inD.flat = true → vs.all flatV = true
  | _, _, .nil, _ => rfl
  | _, _, .cons a b, f => by
    rw [List.all_cons, Bool.and_eq_true] at f
    rw [List.all_cons, Bool.and_eq_true]
    exact ⟨dp_flat a f.1, dpAll_flat b f.2⟩
theorem dpAll_any {v : V} {p : PyData} (h : Dp K H v p) (fp : inD.flat p = true) : ∀ {vs : List V} {ps : List PyData}, DpAll K H vs ps → ps.all inD.flat = true → inV v vs = ps.any fun q => PyData.eqv q p
  | _, _, .nil, _ => rfl
  | _, _, .cons a b, f => by
    rw [List.all_cons, Bool.and_eq_true] at f
    unfold inV
    rw [List.any_cons, List.any_cons, dp_eqV a h f.1 fp]
    exact congrArg _ (dpAll_any h fp b f.2)
end
theorem in_cases {X : Cx} {x y : D} {b : Bool} {G : Gh} {S : Sto} {H : Hp} {v w : V} (e : inD x y = some b) (sm : Sm X.K G S H) (rx : Rp X.K G x v) (ry : Rp X.K G y w) :
    (∃ i j, v = .str i ∧ w = .str j ∧ b = !(Builtin.Str.occurrences j i 0 j.length 1).isEmpty) ∨
    (∃ p xs, w = .ref p ∧ (SqL X.K H p xs ∨ SqT X.K H p xs) ∧ flatV v = true ∧ xs.all flatV = true ∧ b = inV v xs) ∨
    ∃ d ds, Dp X.K H v d ∧ Dp X.K H w (.list ds) ∧ SeqAt.shaped d = true ∧ SeqAt.shaped (.list ds) = true ∧ b = ds.any fun z => PyData.eqv z d := by
  unfold inD at e
  split at e
  · split at e
    · cases rx; cases ry
      exact .inl ⟨_, _, rfl, rfl, (Option.some.inj e).symm⟩
    · cases e
  · rename_i ys
    match h1 : toP x, h2 : toPs ys, e with
    | some p, some qs, e =>
      simp only at e
      by_cases c : inD.flat p = true ∧ qs.all inD.flat = true
      · rw [if_pos c] at e
        cases ry with
        | tup h r =>
          have dx := Rp.dp sm.fr x v p rx h1
          have dy := Rps.dp sm.fr ys _ qs r h2
          exact .inr (.inl ⟨_, _, rfl, .inr (SqT.mono h sm.fr), dp_flat dx c.1, dpAll_flat dy c.2, by rw [dpAll_any dx c.1 dy c.2]; exact (Option.some.inj e).symm⟩)
      · rw [if_neg c] at e
        cases e
    | none, _, e => cases e
    | some _, none, e => cases e
  · rename_i ys
    match h1 : toP x, h2 : toPs ys, e with
    | some p, some qs, e =>
      simp only at e
      by_cases c : SeqAt.shaped p = true ∧ SeqAt.shaped (.list qs) = true
      · rw [if_pos c] at e
        cases ry with
        | lst h r =>
          exact .inr (.inr ⟨p, qs, Rp.dp sm.fr x v p rx h1, .lst (SqL.of (sm.fr _ _ h)) (Rps.dp sm.fr ys _ qs r h2), c.1, c.2, (Option.some.inj e).symm⟩)
      · rw [if_neg c] at e
        cases e
    | none, _, e => cases e
    | some _, none, e => cases e
  · cases e
section
variable {X : Cx}
theorem of_in (hu : X.A.units + 65 < cLine) : OpF X (compareOp .In) (inG false) := fun pins s σ H v w u u' Q I rv rw' ⟨x, y, S, G, sm, rx, ry, h⟩ => by
  unfold inG at h
  match e : inD x y, h with
  | some b, h =>
    have q : Q (.bl b) H := h G H _ .refl sm (by rw [Bool.false_xor]; exact .bl _)
    rcases in_cases e sm rx ry with ⟨i, j, rfl, rfl, rfl⟩ | ⟨p, xs, rfl, h1, h2, h3, rfl⟩ | ⟨d, ds, h1, h2, h3, h4, rfl⟩
    · exact op_in_str pins s σ H _ _ u u' Q I rv rw' ⟨i, j, rfl, rfl, q⟩
    · exact op_in_seq pins s σ H _ _ u u' Q I rv rw' ⟨p, xs, rfl, h1, h2, h3, q⟩
    · exact op_inD hu pins s σ H _ _ u u' Q I rv rw' ⟨d, ds, h1, h2, h3, h4, q⟩
  | none, h => exact h.elim
theorem of_notin (hu : X.A.units + 65 < cLine) : OpF X (compareOp .NotIn) (inG true) := fun pins s σ H v w u u' Q I rv rw' ⟨x, y, S, G, sm, rx, ry, h⟩ => by
  unfold inG at h
  match e : inD x y, h with
  | some b, h =>
    have q : Q (.bl (!b)) H := h G H _ .refl sm (by rw [Bool.true_xor]; exact .bl _)
    rcases in_cases e sm rx ry with ⟨i, j, rfl, rfl, rfl⟩ | ⟨p, xs, rfl, h1, h2, h3, rfl⟩ | ⟨d, ds, h1, h2, h3, h4, rfl⟩
    · exact op_notin_str pins s σ H _ _ u u' Q I rv rw' ⟨i, j, rfl, rfl, q⟩
    · exact op_notIn_seq pins s σ H _ _ u u' Q I rv rw' ⟨p, xs, rfl, h1, h2, h3, q⟩
    · exact op_notInD hu pins s σ H _ _ u u' Q I rv rw' ⟨d, ds, h1, h2, h3, h4, q⟩
  | none, h => exact h.elim
end
/-! ### arithmetic, putting together -/
def fits (a b : Nat) : Bool := decide (a + b ≤ sizeLine)
def addG : G2 := fun x y S => match x, y with
  | .int i, .int j => .ok (.int (i + j)) S
  | .str a, .str b => if fits a.length b.length = true then .ok (.str (a ++ b)) S else .no
  | .lst a, .lst b => if fits a.length b.length = true then .ok (.lst (a ++ b)) S else .no
  | .tup a, .tup b => if fits a.length b.length = true then .ok (.tup (a ++ b)) S else .no
  | _, _ => .no
def subG : G2 := fun x y S => match x, y with
  | .int i, .int j => .ok (.int (i - j)) S
  | _, _ => .no
def mulOk (i j : Int) : Bool := decide (-(2 ^ 64) < i ∧ i < 2 ^ 64) || decide (-(2 ^ 64) < j ∧ j < 2 ^ 64) || decide (i.natAbs.log2 + j.natAbs.log2 < 1000000)
def repOk (n : Nat) (k : Int) : Bool := decide (-(2 ^ 63) ≤ k) && decide (k < 2 ^ 63) && decide (n * k.toNat ≤ sizeLine)
def mulG : G2 := fun x y S => match x, y with
  | .int i, .int j => if mulOk i j = true then .ok (.int (i * j)) S else .no
  | .lst a, .int k => if repOk a.length k = true then .ok (.lst (List.replicate k.toNat a).flatten) S else .no
  | _, _ => .no
def divOk (j : Int) : Bool := decide (0 < j) && decide (j.natAbs.log2 < 9000)
def fdivG : G2 := fun x y S => match x, y with
  | .int i, .int j => if divOk j = true then .ok (.int (i / j)) S else .no
  | _, _ => .no
def modG : G2 := fun x y S => match x, y with
  | .int i, .int j => if 0 < j then .ok (.int (i % j)) S else .no
  | _, _ => .no
def powOk (i j : Int) : Bool := decide (0 ≤ j) && decide (j ≤ 1000000) && decide (i.natAbs < 2 ^ 64)
def powG : G2 := fun x y S => match x, y with
  | .int i, .int j => if powOk i j = true then .ok (.int (i ^ j.toNat)) S else .no
  | _, _ => .no
theorem Rps.flat {K : PySem.W.Frag} {G : Gh} {xs : List D} {vs : List V} (r : Rps K G xs vs) : ∀ n : Nat, Rps K G (List.replicate n xs).flatten (List.replicate n vs).flatten
  | 0 => .nil
  | n + 1 => r.append (Rps.flat r n)
section
variable {X : Cx}
theorem new_lst {G : Gh} {S : Sto} {H : Hp} {p : Addr} {xs : List D} {vs : List V} {Q : VK} (sm : Sm X.K G S H) (hp : H p = none) (r : Rps X.K G xs vs) (h : sat X (Rp X.K) G H (.ok (.lst xs) S) Q) : Q (.ref p) (upd H p (.lst vs)) :=
  h _ _ _ (Stp.put sm hp) (sm.put hp) (.lst upd_same (r.mono (Gh.put_le (sm.free hp))))
theorem new_tup {G : Gh} {S : Sto} {H : Hp} {p : Addr} {xs : List D} {vs : List V} {Q : VK} (sm : Sm X.K G S H) (hp : H p = none) (r : Rps X.K G xs vs) (h : sat X (Rp X.K) G H (.ok (.tup xs) S) Q) : Q (.ref p) (upd H p (.tup vs)) :=
  h _ _ _ (Stp.put sm hp) (sm.put hp) (.tup (SqT.of upd_same) (r.mono (Gh.put_le (sm.free hp))))
theorem of_add : OpF X (binaryOp .Add) addG := fun pins s σ H v w u u' Q I rv rw' ⟨x, y, S, G, sm, rx, ry, h⟩ => by
  unfold addG at h
  split at h
  · cases rx; cases ry; exact op_add pins s σ H _ _ u u' Q I rv rw' ⟨_, _, rfl, rfl, h G H _ .refl sm (.int _)⟩
  · split at h
    · rename_i c
      cases rx; cases ry; exact op_add_str pins s σ H _ _ u u' Q I rv rw' ⟨_, _, rfl, rfl, of_decide_eq_true c, h G H _ .refl sm (.str _)⟩
    · exact h.elim
  · split at h
    · rename_i c
      cases rx with
      | lst h1 r1 =>
        cases ry with
        | lst h2 r2 =>
          refine op_cat pins s σ H _ _ u u' Q I rv rw' ⟨_, _, _, _, rfl, rfl, sm.fr _ _ h1, sm.fr _ _ h2, ?_, fun p hp => ?_⟩
          · rw [r1.length, r2.length]
            exact of_decide_eq_true c
          · exact new_lst sm hp (r1.append r2) h
    · exact h.elim
  · split at h
    · rename_i c
      cases rx with
      | tup h1 r1 =>
        cases ry with
        | tup h2 r2 =>
          refine op_catA pins s σ H _ _ u u' Q I rv rw' ⟨_, _, _, _, rfl, rfl, SqT.mono h1 sm.fr, SqT.mono h2 sm.fr, ?_, fun e => ?_, fun _ e => ?_, fun _ _ p hp => ?_⟩
          · rw [r1.length, r2.length]
            exact of_decide_eq_true c
          · subst e
            cases r1
            exact h G H _ .refl sm (.tup h2 r2)
          · subst e
            cases r2
            rw [List.append_nil] at h
            exact h G H _ .refl sm (.tup h1 r1)
          · exact new_tup sm hp (r1.append r2) h
    · exact h.elim
  · exact h.elim
theorem of_sub : OpF X (binaryOp .Sub) subG := fun pins s σ H v w u u' Q I rv rw' ⟨x, y, S, G, sm, rx, ry, h⟩ => by
  unfold subG at h
  split at h
  · cases rx; cases ry; exact op_sub pins s σ H _ _ u u' Q I rv rw' ⟨_, _, rfl, rfl, h G H _ .refl sm (.int _)⟩
  · exact h.elim
theorem of_mul : OpF X (binaryOp .Mult) mulG := fun pins s σ H v w u u' Q I rv rw' ⟨x, y, S, G, sm, rx, ry, h⟩ => by
  unfold mulG at h
  split at h
  · split at h
    · rename_i c
      cases rx; cases ry
      unfold mulOk at c
      rw [Bool.or_eq_true, Bool.or_eq_true] at c
      rcases c with (c | c) | c
      · exact op_mul pins s σ H _ _ u u' Q I rv rw' ⟨_, _, rfl, rfl, .inl (of_decide_eq_true c), h G H _ .refl sm (.int _)⟩
      · exact op_mul pins s σ H _ _ u u' Q I rv rw' ⟨_, _, rfl, rfl, .inr (of_decide_eq_true c), h G H _ .refl sm (.int _)⟩
      · exact op_mulW pins s σ H _ _ u u' Q I rv rw' ⟨_, _, rfl, rfl, (of_decide_eq_true c : _ < 1000000), h G H _ .refl sm (.int _)⟩
    · exact h.elim
  · split at h
    · rename_i c
      unfold repOk at c
      rw [Bool.and_eq_true, Bool.and_eq_true] at c
      cases rx with
      | lst h1 r1 =>
        cases ry
        refine op_rep pins s σ H _ _ u u' Q I rv rw' ⟨_, _, _, rfl, rfl, sm.fr _ _ h1, of_decide_eq_true c.1.1, of_decide_eq_true c.1.2, ?_, fun p hp => ?_⟩
        · rw [r1.length]
          exact of_decide_eq_true c.2
        · exact new_lst sm hp (r1.flat _) h
    · exact h.elim
  · exact h.elim
theorem of_fdiv : OpF X (binaryOp .FloorDiv) fdivG := fun pins s σ H v w u u' Q I rv rw' ⟨x, y, S, G, sm, rx, ry, h⟩ => by
  unfold fdivG at h
  split at h
  · split at h
    · rename_i c
      unfold divOk at c
      rw [Bool.and_eq_true] at c
      cases rx; cases ry; exact op_fdivW pins s σ H _ _ u u' Q I rv rw' ⟨_, _, rfl, rfl, ⟨of_decide_eq_true c.1, of_decide_eq_true c.2⟩, h G H _ .refl sm (.int _)⟩
    · exact h.elim
  · exact h.elim
theorem of_mod : OpF X (binaryOp .Mod) modG := fun pins s σ H v w u u' Q I rv rw' ⟨x, y, S, G, sm, rx, ry, h⟩ => by
  unfold modG at h
  split at h
  · split at h
    · rename_i c
      cases rx; cases ry; exact op_mod pins s σ H _ _ u u' Q I rv rw' ⟨_, _, rfl, rfl, c, h G H _ .refl sm (.int _)⟩
    · exact h.elim
  · exact h.elim
theorem of_pow : OpF X (binaryOp .Pow) powG := fun pins s σ H v w u u' Q I rv rw' ⟨x, y, S, G, sm, rx, ry, h⟩ => by
  unfold powG at h
  split at h
  · split at h
    · rename_i c
      unfold powOk at c
      rw [Bool.and_eq_true, Bool.and_eq_true] at c
      cases rx; cases ry; exact op_pow pins s σ H _ _ u u' Q I rv rw' ⟨_, _, rfl, rfl, ⟨of_decide_eq_true c.1.1, of_decide_eq_true c.1.2, of_decide_eq_true c.2⟩, h G H _ .refl sm (.int _)⟩
    · exact h.elim
  · exact h.elim
def negG : G1 := fun x S => match x with
  | .int i => .ok (.int (-i)) S
  | _ => .no
theorem of_neg : UnF X (unaryOp .USub) negG := fun pins s σ H v u Q I rv ⟨x, S, G, sm, rx, h⟩ => by
  unfold negG at h
  split at h
  · cases rx; exact un_neg pins s σ H _ u Q I rv ⟨_, rfl, h G H _ .refl sm (.int _)⟩
  · exact h.elim
end
end PV
set_option Elab.async false
set_option linter.all false
set_option maxRecDepth 100000
set_option maxHeartbeats 4000000
namespace ZL
open PySem PySem.Spec PyProof.Rows L2
section
variable {P : Program} {w : World} {K : PySem.W.Frag} {mg mb : Str → Option Value} {k : Nat} {fa a : Addr} {sp : Sp} {s₁ : Shared} {vs : List Value} {ns : List Int}
abbrev ended (s₁ : Shared) : Except Value Flow → Shared → Prop := fun r s' => r = .ok (.ret (.bool true)) ∧ OldK s₁.heap s'.heap ∧ s'.os = s₁.os ∧ AllBare s'.gens
end
end ZL
set_option Elab.async false
set_option linter.all false
set_option maxRecDepth 100000
set_option maxHeartbeats 4000000
namespace ZL
open PySem PySem.Spec PyProof.Rows L2
section
variable {X : Cx} {CX : CXT} {k : Nat} {f C : Addr} {sp : Sp} {E : XK}
/-- C() -/
theorem pe_makeR0 {x : Str} {p pos : Pos} (M : Mk X.K C f) (F : FnR X.prog X.w X.K X.mg X.base CX k f sp) (hr : Room (k + 1) X.A) (hg : Gl X x) (hm : X.mg x = some (.ref C)) (hx : Passes CX X E) (hd : (x == ("__debug__" : Str)) = false := by decide) :
    PE X (.Call (.Name x p) [] [] pos) (fun σ H Q => ∀ x dx, H x = none → H dx = none → dx ≠ x → sp [V.ref x] (upd (upd H dx (.own x)) x (.ins C dx [])) (fun v H2 => v = .non ∧ Q (.ref x) H2) E) :=
  ⟨fun pins s σ H Q I h => wpAny_Call_Name_kw (ld_glob I hg hm (PySem.W.callWith_K0 I.kIn M.kp (StX.run_makeR M F hr hx (I.tok _) .nil h)) hd)⟩
end
end ZL
set_option Elab.async false
set_option linter.all false
set_option maxRecDepth 100000
set_option maxHeartbeats 4000000
namespace ZL
open PySem PySem.Spec PyProof.Rows L2
section
variable {X : Cx} {CX : CXT} {k : Nat} {f C g : Addr} {sp : Sp} {E : XK} {pins : List (Addr × Obj)} {σ : L2.St} {H : Hp} {s : Shared}
/-! ### len, str, in of an instance by own methods -/
def rInO (C : Addr) (sp : Sp) (E : XK) (neg : Bool) : R2 := fun x y H Q => ∃ a dx fs, y = .ref a ∧ H a = some (.ins C dx fs) ∧ sp [y, x] H (fun v H' => ∃ b, v = .bl b ∧ Q (.bl (neg ^^ b)) H') E
theorem op_inO (o : Own X.K C "__contains__" f) (F : FnR X.prog X.w X.K X.mg X.base CX k f sp) (hr : Room k X.A) (hx : Passes CX X E) : OpR X (compareOp .In) (rInO C sp E false) := by
  rintro pins s σ H x y v u Q I rx ry ⟨a, dx, fs, rfl, ha, q⟩
  cases ry
  obtain ⟨od, J⟩ := inst_at I ha
  obtain ⟨m, hF⟩ := I.fr
  refine PySem.W.in_K hF I.ok.mod.kin J o.at_ o.fn (thn (run_at (A := X.A) (vs := [.ref a, x]) F hr rfl hx I (.cons rfl (.cons rx .nil)) q) fun u s' z => ?_)
  obtain ⟨v', H', I', r', b, rfl, q'⟩ := z
  cases r'
  refine wpAny_truthy_bool ⟨.bl b, H', I', rfl, ?_⟩
  simpa using q'
/-! ### x op y by own methods -/
theorem cmpBack_ref {Q : VK} {u : Value} {s' : Shared} (h : EP X pins σ (fun v H' => (∃ r, v = .ref r) ∧ Q v H') u s') : PySem.W.CmpBack (EP X pins σ Q) u s' := by
  obtain ⟨v, H', I', r, ⟨b, rfl⟩, q⟩ := h
  cases r
  exact ⟨.ref b, H', I', rfl, q⟩
/-- x op y, both instances of the class at C; an object comes back -/
def rBinO (C : Addr) (sp : Sp) (E : XK) : R2 := fun x y H Q => ∃ a b dx dy fs gs, x = .ref a ∧ y = .ref b ∧ H a = some (.ins C dx fs) ∧ H b = some (.ins C dy gs) ∧ sp [x, y] H (fun v H' => (∃ r, v = .ref r) ∧ Q v H') E
theorem op_binO {op : Operator} (hc : PySem.W.selfFirst X.K C = true) (o : Own X.K C (PySem.dunder op.info.2) f) (F : FnR X.prog X.w X.K X.mg X.base CX k f sp) (hr : Room k X.A) (hx : Passes CX X E) : OpR X (binaryOp op) (rBinO C sp E) := by
  rintro pins s σ H x y v u Q I rx ry ⟨a, b, dx, dy, fs, gs, rfl, rfl, ha, hb, q⟩
  cases rx
  cases ry
  obtain ⟨od, J⟩ := inst_at I ha
  obtain ⟨od', J'⟩ := inst_at I hb
  obtain ⟨m, hF⟩ := I.fr
  exact PySem.W.binop_K hF I.ok.mod.kin J J'.type hc o.at_ o.fn (thn (run_at (vs := [.ref a, .ref b]) F hr rfl hx I (.cons rfl (.cons rfl .nil)) q) fun u s' z => cmpBack_ref z)
/-- x op an int -/
def rBinI (C : Addr) (sp : Sp) (E : XK) : R2 := fun x y H Q => ∃ a i dx fs, x = .ref a ∧ y = .int i ∧ H a = some (.ins C dx fs) ∧ sp [x, y] H (fun v H' => (∃ r, v = .ref r) ∧ Q v H') E
theorem op_binI {op : Operator} {fo ro rc : Option Value} (hc : PySem.W.selfFirst X.K C = true) (o : Own X.K C (PySem.dunder op.info.2) f) (hR : PySem.W.findIn X.K (.ref C) (dunderR op.info.2) = some rc) (hp : rc = none ∨ ∃ g : Addr, rc = some (.ref g))
    (h1 : PySem.W.findIn X.K (.type "int") (PySem.dunder op.info.2) = some fo) (h2 : PySem.W.findIn X.K (.type "int") (dunderR op.info.2) = some ro) (hsub : PySem.W.subIn X.K (.type "int") (.ref C) = some false)
    (F : FnR X.prog X.w X.K X.mg X.base CX k f sp) (hr : Room k X.A) (hx : Passes CX X E) : OpR X (binaryOp op) (rBinI C sp E) := by
  rintro pins s σ H x y v u Q I rx ry ⟨a, i, dx, fs, rfl, rfl, ha, q⟩
  cases rx
  have ry' := ry
  obtain ⟨t, rfl⟩ := ry'
  obtain ⟨od, J⟩ := inst_at I ha
  obtain ⟨m, hF⟩ := I.fr
  exact PySem.W.ksp_binT (T := "int") hF I.ok.mod.kin J rfl hc o.at_ o.fn hR hp h1 h2 hsub (thn (run_at (vs := [.ref a, .int i]) F hr rfl hx I (.cons rfl (.cons ry .nil)) q) fun u s' z => cmpBack_ref z)
end
end ZL
set_option Elab.async false
set_option linter.all false
set_option maxRecDepth 100000
set_option maxHeartbeats 4000000
namespace PV
open PySem PySem.Spec PyProof.Rows L2 ZL
/-! ### names as texts -/
theorem ofS_inj {a b : String} (h : Str.ofString a = Str.ofString b) : a = b := by
  rw [Str.ofString_eq_toList, Str.ofString_eq_toList] at h
  have h1 : (a.toList.map Char.toNat).toArray = (b.toList.map Char.toNat).toArray := congrArg Str.cps h
  have h2 : a.toList.map Char.toNat = b.toList.map Char.toNat := by simpa using congrArg Array.toList h1
  have inj : ∀ (x y : List Char), x.map Char.toNat = y.map Char.toNat → x = y := by
    intro x
    induction x with
    | nil => intro y e; cases y with | nil => rfl | cons _ _ => simp at e
    | cons c x ih =>
      intro y e
      cases y with
      | nil => simp at e
      | cons d y =>
        simp only [List.map_cons, List.cons.injEq] at e
        rw [Char.toNat_inj.mp e.1, ih y e.2]
  exact String.toList_inj.mp (inj _ _ h2)
section
variable {K : PySem.W.Frag} {G : Gh}
theorem Rpf.at {fs : List (String × D)} {ws : List (Str × V)} {n : String} {d : D} (h : Rpf K G fs ws) (e : fs.lookup n = some d) : ∃ v, ws.lookup (Str.ofString n) = some v ∧ Rp K G d v := h.get e fun _ _ z => ofS_inj z
theorem Rpf.gone {fs : List (String × D)} {ws : List (Str × V)} {n : String} (h : Rpf K G fs ws) (e : fs.lookup n = none) : ws.lookup (Str.ofString n) = none := by
  induction fs generalizing ws with
  | nil => cases h; rfl
  | cons x xs ih =>
    cases h with
    | @cons m d' v' _ ws' a b =>
      by_cases hm : n = m
      · subst hm
        simp at e
      · have h1 : (n == m) = false := by simpa using hm
        rw [List.lookup_cons, h1] at e
        have h2 : (Str.ofString n == Str.ofString m) = false := beq_eq_false_iff_ne.mpr fun z => hm (ofS_inj z)
        rw [List.lookup_cons, h2]
        exact ih b e
theorem Rpf.length {fs : List (String × D)} {ws : List (Str × V)} (h : Rpf K G fs ws) : ws.length = fs.length := by
  induction fs generalizing ws with
  | nil => cases h; rfl
  | cons x xs ih => cases h with | cons a b => simp [ih b]
def putD (f : String) (d : D) : List (String × D) → List (String × D)
  | [] => [(f, d)]
  | (g, x) :: r => if g = f then (g, d) :: r else (g, x) :: putD f d r
theorem Rpf.put {fs : List (String × D)} {ws : List (Str × V)} {n : String} {d : D} {v : V} (h : Rpf K G fs ws) (r : Rp K G d v) : Rpf K G (putD n d fs) (putF (Str.ofString n) v ws) := by
  induction fs generalizing ws with
  | nil => cases h; exact .cons r .nil
  | cons x xs ih =>
    cases h with
    | @cons m d' v' _ ws' a b =>
      by_cases hm : m = n
      · subst hm
        show Rpf K G (if m = m then (m, d) :: xs else _) (if Str.ofString m = Str.ofString m then (Str.ofString m, v) :: ws' else _)
        rw [if_pos rfl, if_pos rfl]
        exact .cons r b
      · show Rpf K G (if m = n then _ else (m, d') :: putD n d xs) (if Str.ofString m = Str.ofString n then _ else (Str.ofString m, v') :: putF (Str.ofString n) v ws')
        rw [if_neg hm, if_neg fun z => hm (ofS_inj z)]
        exact .cons a (ih b)
end
/-! ### what a call may let out -/
def Est (X : Cx) : XK := fun cls dd H' => ∃ G H c fs S', Takes X (fun cls dd _ H' => wEx X.K G H c fs S' cls dd H') ∧ wEx X.K G H c fs S' cls dd H'
theorem passE {X : Cx} : Passes (L2.CX X.prog X.w) X (Est X) := fun pins σ H s e s' I c => by
  obtain ⟨a, B, H', cls, d, rfl, fl, hok, ub, na, os, ag, G, H0, n, fs, S', tk, w⟩ := c
  exact passes_call tk (fun _ _ _ _ h => h) pins σ H s _ s' I ⟨a, B, H', cls, d, rfl, fl, hok, ub, na, os, ag, w⟩
theorem sat_sp {X : Cx} {G : Gh} {H : Hp} {o : Out D} {Q : VK} (h : sat X (Rp X.K) G H o Q) : spO X.K G H o Q (Est X) := by
  match o, h with
  | .ok _ _, h => exact h
  | .ex c fs S', h => exact fun cls dd H' w => ⟨G, H, c, fs, S', h, w⟩
  | .no, h => exact h
/-! ### f(..) -/
section
variable {X : Cx} {j : Nat} {f : Addr} {F : Fn} {x : Str} {e : Expr} {es : List Expr} {ms : MA} {p pos : Pos}
theorem cal_rd {ρ : Ev} {S : Sto} {G : Gh} {σ : L2.St} {H : Hp} {Q : VK} (sm : Sm X.K G S H) (re : Re X.K G ρ σ) (h : sat X (Rp X.K) G H (cal F ms ρ S) Q) : tA X ms σ H (fun vs H1 => spF X.K F vs H1 Q (Est X)) := by
  refine ⟨ρ, S, G, sm, re, (sat.bind h).imp fun vs H1 w => ?_⟩
  obtain ⟨ds, S1, G1, le1, sm1, r1, q1⟩ := w
  exact ⟨ds, S1, G1, sm1, r1, sat_sp q1⟩
theorem qe_callG (Ff : FnFG X.prog X.w X.K X.mg X.base j f F) (hgd : X.A.guards = some []) (hr : Room j X.A) (hm : X.mg x = some (.ref f)) (hk : PySem.W.keepIn X.K (.ref f) = true) (ha : QA X (e :: es) ms) (hg : Gl X x := by rfl) (hdb : (x == ("__debug__" : Str)) = false := by decide)
    (he : starEach (e :: es) X.env = (false, eval e X.env) :: starEach es X.env := by rfl) (hpl : (backTo pos (starEach es X.env)).any (·.1) = false := by rfl) : QE X (.Call (.Name x p) (e :: es) [] pos) (cal F ms) :=
  qe_of (pe_callRG Ff hgd hr hg hm hk passE ha hdb he hpl) fun ρ S G σ H Q sm re h => cal_rd sm re h
theorem qe_call (Ff : FnF X.prog X.w X.K X.mg X.base j f F) (hr : Room j X.A) (hm : X.mg x = some (.ref f)) (hk : PySem.W.keepIn X.K (.ref f) = true) (ha : QA X (e :: es) ms) (hg : Gl X x := by rfl) (hdb : (x == ("__debug__" : Str)) = false := by decide)
    (he : starEach (e :: es) X.env = (false, eval e X.env) :: starEach es X.env := by rfl) (hpl : (backTo pos (starEach es X.env)).any (·.1) = false := by rfl) : QE X (.Call (.Name x p) (e :: es) [] pos) (cal F ms) :=
  qe_of (pe_callR Ff hr hg hm hk passE ha hdb he hpl) fun ρ S G σ H Q sm re h => cal_rd sm re h
/-- a built-in function, a built-in class -/
theorem calB_rd {g : Fn} {ρ : Ev} {S : Sto} {G : Gh} {σ : L2.St} {H : Hp} {Q : VK} (sm : Sm X.K G S H) (re : Re X.K G ρ σ) (h : sat X (Rp X.K) G H (cal g ms ρ S) Q) :
    tCB (fun vs H Q => ∃ ds S G, Sm X.K G S H ∧ Rps X.K G ds vs ∧ sat X (Rp X.K) G H (g ds S) Q) (tA X ms) σ H Q := by
  refine ⟨ρ, S, G, sm, re, (sat.bind h).imp fun vs H1 w => ?_⟩
  obtain ⟨ds, S1, G1, le1, sm1, r1, q1⟩ := w
  exact ⟨ds, S1, G1, sm1, r1, q1⟩
theorem qe_blt {g : Fn} {id : String} (hc : CallF X (.builtin id) g) (hm : X.mg x = none) (ha : QA X (e :: es) ms) (hv : bootBuiltins x = some (.builtin id) := by decide +kernel) (hg : Gl X x := by rfl) (hn : x ≠ "__name__" := by decide) (hdb : (x == ("__debug__" : Str)) = false := by decide)
    (he : starEach (e :: es) X.env = (false, eval e X.env) :: starEach es X.env := by rfl) (hpl : (backTo pos (starEach es X.env)).any (·.1) = false := by rfl) : QE X (.Call (.Name x p) (e :: es) [] pos) (cal g ms) :=
  qe_of (pe_callB hc hg hm hv ha hn hdb he hpl) fun ρ S G σ H Q sm re h => calB_rd sm re h
theorem qe_typ {g : Fn} {T : String} (hc : CallF X (.type T) g) (hm : X.mg x = none) (ha : QA X (e :: es) ms) (hv : bootBuiltins x = some (.type T) := by decide +kernel) (hg : Gl X x := by rfl) (hn : x ≠ "__name__" := by decide) (hdb : (x == ("__debug__" : Str)) = false := by decide)
    (he : starEach (e :: es) X.env = (false, eval e X.env) :: starEach es X.env := by rfl) (hpl : (backTo pos (starEach es X.env)).any (·.1) = false := by rfl) : QE X (.Call (.Name x p) (e :: es) [] pos) (cal g ms) :=
  qe_of (pe_callTy hc hg hm hv ha hn hdb he hpl) fun ρ S G σ H Q sm re h => calB_rd sm re h
end
/-! ### built-in functions -/
def lenB : Fn := fun ds S => match ds with
  | [.lst xs] => .ok (.int xs.length) S
  | [.tup xs] => .ok (.int xs.length) S
  | [.src xs] => .ok (.int xs.length) S
  | [.str x] => if x.length ≤ sizeLine then .ok (.int x.length) S else .no
  | [.loc n] => match S[n]? with
    | some (.lst xs) => .ok (.int xs.length) S
    | _ => .no
  | _ => .no
def absB : Fn := fun ds S => match ds with
  | [.int i] => .ok (.int (if i < 0 then -i else i)) S
  | _ => .no
def intB : Fn := fun ds S => match ds with
  | [.int i] => .ok (.int i) S
  | [.bl b] => .ok (.int (if b = true then 1 else 0)) S
  | [.str a] => match PySem.intText? a with
    | some n => if a.length ≤ 640 then .ok (.int n) S else .no
    | none => .no
  | _ => .no
def strOf (i : Int) : Str := Str.ofString (toString i)
def listB : Fn := fun ds S => match ds with
  | [.lst xs] => .ok (.lst xs) S
  | [.tup xs] => .ok (.lst xs) S
  | [.src xs] => .ok (.lst xs) S
  | _ => .no
def tupB : Fn := fun ds S => match ds with
  | [.lst xs] => .ok (.tup xs) S
  | [.tup xs] => .ok (.tup xs) S
  | [.loc n] => match S[n]? with
    | some (.lst xs) => .ok (.tup xs) S
    | _ => .no
  | _ => .no
section
variable {X : Cx}
theorem vals1 {K : PySem.W.Frag} {G : Gh} {d : D} {vs : List V} (r : Rps K G [d] vs) : ∃ v, vs = [v] ∧ Rp K G d v := by
  cases r with
  | cons a b => cases b; exact ⟨_, rfl, a⟩
theorem vals2' {K : PySem.W.Frag} {G : Gh} {d e : D} {vs : List V} (r : Rps K G [d, e] vs) : ∃ v w, vs = [v, w] ∧ Rp K G d v ∧ Rp K G e w := by
  cases r with
  | cons a b => obtain ⟨w, rfl, q⟩ := vals1 b; exact ⟨_, _, rfl, a, q⟩
theorem Sm.list {K : PySem.W.Frag} {G : Gh} {S : Sto} {H : Hp} (sm : Sm K G S H) {n : Nat} {xs : List D} {v : V} (e : S[n]? = some (.lst xs)) (r : Rp K G (.loc n) v) : ∃ a vs, v = .ref a ∧ G.f n = some a ∧ H a = some (.lst vs) ∧ Rps K G xs vs := by
  cases r with
  | loc h =>
    obtain ⟨_, vs, h1, h2⟩ := sm.addr e (by simp) h
    exact ⟨_, vs, rfl, h, h1, h2⟩
theorem cf_len : CallF X (.builtin "len") lenB := fun pins s σ H vs us Q I rv ⟨ds, S, G, sm, r, h⟩ => by
  unfold lenB at h
  split at h
  · obtain ⟨v, rfl, q⟩ := vals1 r
    cases q with
    | lst a b => exact call_len_seq pins s σ H _ us Q I rv ⟨_, _, rfl, .inl (SqL.of (sm.fr _ _ a)), h G H _ .refl sm (by rw [b.length]; exact .int _)⟩
  · obtain ⟨v, rfl, q⟩ := vals1 r
    cases q with
    | tup a b => exact call_len_seq pins s σ H _ us Q I rv ⟨_, _, rfl, .inr (SqT.mono a sm.fr), h G H _ .refl sm (by rw [b.length]; exact .int _)⟩
  · obtain ⟨v, rfl, q⟩ := vals1 r
    cases q with
    | src a b => exact call_len_seq pins s σ H _ us Q I rv ⟨_, _, rfl, .inl (SqL.mono a sm.fr), h G H _ .refl sm (by rw [b.length]; exact .int _)⟩
  · split at h
    · rename_i c
      obtain ⟨v, rfl, q⟩ := vals1 r
      cases q
      exact call_len_str pins s σ H _ us Q I rv ⟨_, rfl, c, h G H _ .refl sm (.int _)⟩
    · exact h.elim
  · split at h
    · rename_i c
      obtain ⟨v, rfl, q⟩ := vals1 r
      obtain ⟨a, ws, rfl, _, h1, h2⟩ := sm.list c q
      exact call_len_seq pins s σ H _ us Q I rv ⟨_, _, rfl, .inl (SqL.of h1), h G H _ .refl sm (by rw [h2.length]; exact .int _)⟩
    · exact h.elim
  · exact h.elim
theorem cf_abs : CallF X (.builtin "abs") absB := fun pins s σ H vs us Q I rv ⟨ds, S, G, sm, r, h⟩ => by
  unfold absB at h
  split at h
  · obtain ⟨v, rfl, q⟩ := vals1 r
    cases q
    exact call_abs pins s σ H _ us Q I rv ⟨_, rfl, h G H _ .refl sm (.int _)⟩
  · exact h.elim
theorem cf_int : CallF X (.type "int") intB := fun pins s σ H vs us Q I rv ⟨ds, S, G, sm, r, h⟩ => by
  unfold intB at h
  split at h
  · obtain ⟨v, rfl, q⟩ := vals1 r
    cases q
    exact call_int1 pins s σ H _ us Q I rv (.inl ⟨_, rfl, h G H _ .refl sm (.int _)⟩)
  · obtain ⟨v, rfl, q⟩ := vals1 r
    cases q
    exact call_int1 pins s σ H _ us Q I rv (.inr ⟨_, rfl, h G H _ .refl sm (.int _)⟩)
  · split at h
    · rename_i c
      split at h
      · rename_i c2
        obtain ⟨v, rfl, q⟩ := vals1 r
        cases q
        exact call_int_str pins s σ H _ us Q I rv ⟨_, _, rfl, c, c2, h G H _ .refl sm (.int _)⟩
      · exact h.elim
    · exact h.elim
  · exact h.elim
theorem cf_list : CallF X (.type "list") listB := fun pins s σ H vs us Q I rv ⟨ds, S, G, sm, r, h⟩ => by
  unfold listB at h
  split at h
  · obtain ⟨v, rfl, q⟩ := vals1 r
    cases q with
    | lst a b => exact call_list_of pins s σ H _ us Q I rv ⟨_, _, rfl, .inl (SqL.of (sm.fr _ _ a)), fun l hl => new_lst sm hl b h⟩
  · obtain ⟨v, rfl, q⟩ := vals1 r
    cases q with
    | tup a b => exact call_list_of pins s σ H _ us Q I rv ⟨_, _, rfl, .inr (SqT.mono a sm.fr), fun l hl => new_lst sm hl b h⟩
  · obtain ⟨v, rfl, q⟩ := vals1 r
    cases q with
    | src a b => exact call_list_of pins s σ H _ us Q I rv ⟨_, _, rfl, .inl (SqL.mono a sm.fr), fun l hl => new_lst sm hl b h⟩
  · exact h.elim
theorem new_cell {G : Gh} {S : Sto} {H : Hp} {p : Addr} {xs : List D} {vs : List V} {Q : VK} (sm : Sm X.K G S H) (hp : H p = none) (r : Rps X.K G xs vs) (h : sat X (Rp X.K) G H (.ok (.loc S.length) (S ++ [.lst xs])) Q) : Q (.ref p) (upd H p (.lst vs)) :=
  h _ _ _ (Stp.cell sm hp) (sm.new hp ⟨vs, upd_same, r.mono sm.new_le⟩) (.loc Gh.new_at)
theorem cf_tup : CallF X (.type "tuple") tupB := fun pins s σ H vs us Q I rv ⟨ds, S, G, sm, r, h⟩ => by
  unfold tupB at h
  split at h
  · obtain ⟨v, rfl, q⟩ := vals1 r
    cases q with
    | lst a b => exact call_tuple_of pins s σ H _ us Q I rv ⟨_, _, rfl, .inl ⟨SqL.of (sm.fr _ _ a), fun l hl => new_tup sm hl b h⟩⟩
  · obtain ⟨v, rfl, q⟩ := vals1 r
    cases q with
    | tup a b => exact call_tuple_of pins s σ H _ us Q I rv ⟨_, _, rfl, .inr ⟨SqT.mono a sm.fr, h G H _ .refl sm (.tup a b)⟩⟩
  · split at h
    · rename_i c
      obtain ⟨v, rfl, q⟩ := vals1 r
      obtain ⟨a, ws, rfl, _, h1, h2⟩ := sm.list c q
      exact call_tuple_of pins s σ H _ us Q I rv ⟨_, _, rfl, .inl ⟨SqL.of h1, fun l hl => new_tup sm hl h2 h⟩⟩
    · exact h.elim
  · exact h.elim
end
/-! ### displays -/
def tupE (ms : MA) : ME := fun ρ S => (ms ρ S).bind fun ds S1 => if ds.length ≤ 1000 then .ok (.tup ds) S1 else .no
def lstE (ms : MA) : ME := fun ρ S => (ms ρ S).bind fun ds S1 => if ds.length ≤ 1000 then .ok (.lst ds) S1 else .no
/-- a list that will be written -/
def lstM (ms : MA) : ME := fun ρ S => (ms ρ S).bind fun ds S1 => if ds.length ≤ 1000 then .ok (.loc S1.length) (S1 ++ [.lst ds]) else .no
theorem le_line {n : Nat} (h : n ≤ 1000) : n ≤ sizeLine := Nat.le_trans h (by decide)
section
variable {X : Cx} {es : List Expr} {ms : MA} {pos : Pos}
theorem qe_tup {x1} (h : QA X es ms) : QE X (.Tuple es x1 pos) (tupE ms) := qe_of (pe_tup h) fun ρ S G σ H Q sm re z => by
  refine ⟨ρ, S, G, sm, re, (sat.bind z).imp fun vs H1 w => ?_⟩
  obtain ⟨ds, S1, G1, le1, sm1, r1, q1⟩ := w
  split at q1
  · rename_i c
    exact ⟨by rw [r1.length]; exact le_line c, fun p hp => new_tup sm1 hp r1 q1⟩
  · exact q1.elim
theorem qe_lst (h : QA X es ms) : QE X (.List es pos) (lstE ms) := qe_of (pe_lst h) fun ρ S G σ H Q sm re z => by
  refine ⟨ρ, S, G, sm, re, (sat.bind z).imp fun vs H1 w => ?_⟩
  obtain ⟨ds, S1, G1, le1, sm1, r1, q1⟩ := w
  split at q1
  · rename_i c
    exact ⟨by rw [r1.length]; exact le_line c, fun p hp => new_lst sm1 hp r1 q1⟩
  · exact q1.elim
theorem qe_lstM (h : QA X es ms) : QE X (.List es pos) (lstM ms) := qe_of (pe_lst h) fun ρ S G σ H Q sm re z => by
  refine ⟨ρ, S, G, sm, re, (sat.bind z).imp fun vs H1 w => ?_⟩
  obtain ⟨ds, S1, G1, le1, sm1, r1, q1⟩ := w
  split at q1
  · rename_i c
    exact ⟨by rw [r1.length]; exact le_line c, fun p hp => new_cell sm1 hp r1 q1⟩
  · exact q1.elim
end
end PV
set_option Elab.async false
set_option linter.all false
set_option maxRecDepth 100000
set_option maxHeartbeats 4000000
namespace PV
open PySem PySem.Spec PyProof.Rows L2 ZL
/-! ### lists of ints, of truths, of texts -/
def asInts : List D → Option (List Int)
  | [] => some []
  | .int i :: xs => (asInts xs).map (i :: ·)
  | _ :: _ => none
def asBools : List D → Option (List Bool)
  | [] => some []
  | .bl i :: xs => (asBools xs).map (i :: ·)
  | _ :: _ => none
def asStrs : List D → Option (List Str)
  | [] => some []
  | .str i :: xs => (asStrs xs).map (i :: ·)
  | _ :: _ => none
theorem asInts_map : ∀ ns : List Int, asInts (ns.map .int) = some ns
  | [] => rfl
  | n :: ns => by rw [List.map_cons, asInts, asInts_map ns]; rfl
theorem asBools_map : ∀ ns : List Bool, asBools (ns.map .bl) = some ns
  | [] => rfl
  | n :: ns => by rw [List.map_cons, asBools, asBools_map ns]; rfl
theorem asStrs_map : ∀ ns : List Str, asStrs (ns.map .str) = some ns
  | [] => rfl
  | n :: ns => by rw [List.map_cons, asStrs, asStrs_map ns]; rfl
section
variable {K : PySem.W.Frag} {G : Gh}
theorem asInts_rp : ∀ {xs : List D} {vs : List V} {ns : List Int}, asInts xs = some ns → Rps K G xs vs → vs = ns.map V.int
  | [], _, _, h, r => by cases r; cases h; rfl
  | .int i :: xs, _, ns, h, r => by
    cases r with
    | cons a b =>
      cases a
      unfold asInts at h
      match e : asInts xs, h with
      | some ms, h => cases h; rw [asInts_rp e b]; rfl
      | none, h => cases h
  | .non :: _, _, _, h, _ => by cases h
  | .bl _ :: _, _, _, h, _ => by cases h
  | .str _ :: _, _, _, h, _ => by cases h
  | .tup _ :: _, _, _, h, _ => by cases h
  | .lst _ :: _, _, _, h, _ => by cases h
  | .obj _ _ :: _, _, _, h, _ => by cases h
  | .loc _ :: _, _, _, h, _ => by cases h
  | .cls _ :: _, _, _, h, _ => by cases h
  | .fnc _ :: _, _, _, h, _ => by cases h
  | .ty _ :: _, _, _, h, _ => by cases h
  | .src _ :: _, _, _, h, _ => by cases h
  | .dic0 :: _, _, _, h, _ => by cases h
  | .hob _ :: _, _, _, h, _ => by cases h
  | .exc _ _ :: _, _, _, h, _ => by cases h
theorem asBools_rp : ∀ {xs : List D} {vs : List V} {ns : List Bool}, asBools xs = some ns → Rps K G xs vs → vs = ns.map V.bl
  | [], _, _, h, r => by cases r; cases h; rfl
  | .bl i :: xs, _, ns, h, r => by
    cases r with
    | cons a b =>
      cases a
      unfold asBools at h
      match e : asBools xs, h with
      | some ms, h => cases h; rw [asBools_rp e b]; rfl
      | none, h => cases h
  | .non :: _, _, _, h, _ => by cases h
  | .int _ :: _, _, _, h, _ => by cases h
  | .str _ :: _, _, _, h, _ => by cases h
  | .tup _ :: _, _, _, h, _ => by cases h
  | .lst _ :: _, _, _, h, _ => by cases h
  | .obj _ _ :: _, _, _, h, _ => by cases h
  | .loc _ :: _, _, _, h, _ => by cases h
  | .cls _ :: _, _, _, h, _ => by cases h
  | .fnc _ :: _, _, _, h, _ => by cases h
  | .ty _ :: _, _, _, h, _ => by cases h
  | .src _ :: _, _, _, h, _ => by cases h
  | .dic0 :: _, _, _, h, _ => by cases h
  | .hob _ :: _, _, _, h, _ => by cases h
  | .exc _ _ :: _, _, _, h, _ => by cases h
theorem asStrs_rp : ∀ {xs : List D} {vs : List V} {ns : List Str}, asStrs xs = some ns → Rps K G xs vs → vs = ns.map V.str
  | [], _, _, h, r => by cases r; cases h; rfl
  | .str i :: xs, _, ns, h, r => by
    cases r with
    | cons a b =>
      cases a
      unfold asStrs at h
      match e : asStrs xs, h with
      | some ms, h => cases h; rw [asStrs_rp e b]; rfl
      | none, h => cases h
  | .non :: _, _, _, h, _ => by cases h
  | .int _ :: _, _, _, h, _ => by cases h
  | .bl _ :: _, _, _, h, _ => by cases h
  | .tup _ :: _, _, _, h, _ => by cases h
  | .lst _ :: _, _, _, h, _ => by cases h
  | .obj _ _ :: _, _, _, h, _ => by cases h
  | .loc _ :: _, _, _, h, _ => by cases h
  | .cls _ :: _, _, _, h, _ => by cases h
  | .fnc _ :: _, _, _, h, _ => by cases h
  | .ty _ :: _, _, _, h, _ => by cases h
  | .src _ :: _, _, _, h, _ => by cases h
  | .dic0 :: _, _, _, h, _ => by cases h
  | .hob _ :: _, _, _, h, _ => by cases h
  | .exc _ _ :: _, _, _, h, _ => by cases h
end
/-! ### all, any, sum, max, min, sorted of lists -/
def allB : Fn := fun ds S => match ds with
  | [.lst xs] => match asBools xs with
    | some bs => .ok (.bl (bs.all id)) S
    | none => .no
  | _ => .no
section
variable {X : Cx}
theorem cf_all (hc : X.calm = true) : CallF X (.builtin "all") allB := fun pins s σ H vs us Q I rv ⟨ds, S, G, sm, r, h⟩ => by
  unfold allB at h
  split at h
  · split at h
    · rename_i c
      obtain ⟨v, rfl, q⟩ := vals1 r
      cases q with
      | lst a b =>
        rw [asBools_rp c b] at a
        exact cr_all hc pins s σ H _ us Q I rv ⟨_, _, rfl, SqL.of (sm.fr _ _ a), h G H _ .refl sm (.bl _)⟩
    · exact h.elim
  · exact h.elim
end
/-! ### subscripts, slices -/
def ixG : G2 := fun x y S => match y with
  | .int i => match x with
    | .lst xs => match atI xs i with
      | some d => .ok d S
      | none => .no
    | .tup xs => match atI xs i with
      | some d => .ok d S
      | none => .no
    | .src xs => match atI xs i with
      | some d => .ok d S
      | none => .no
    | .loc n => match S[n]? with
      | some (.lst xs) => match atI xs i with
        | some d => .ok d S
        | none => .no
      | _ => .no
    | .str z => if z.length ≤ sizeLine then match atI z.cps.toList i with
        | some c => .ok (.str ⟨#[c]⟩) S
        | none => .no
      else .no
    | _ => .no
  | _ => .no
theorem Rps.atI {K : PySem.W.Frag} {G : Gh} {xs : List D} {vs : List V} {i : Int} {d : D} (r : Rps K G xs vs) (h : atI xs i = some d) : ∃ v, L2.atI vs i = some v ∧ Rp K G d v := by
  unfold L2.atI at h ⊢
  rw [r.length]
  match e : ixN xs.length i, h with
  | some j, h => exact r.get h
  | none, h => cases h
section
variable {X : Cx} {a b : Expr} {ma mb : ME} {pos : Pos}
theorem ixR : IxR X (fun v w H Q => ∃ x y S G, Sm X.K G S H ∧ Rp X.K G x v ∧ Rp X.K G y w ∧ sat X (Rp X.K) G H (ixG x y S) Q) := fun ea eb pins s σ H v w u u' Q I rv rw' ⟨x, y, S, G, sm, rx, ry, h⟩ hs => by
  unfold ixG at h
  split at h
  · cases ry
    split at h
    · split at h
      · rename_i c
        cases rx with
        | lst p r =>
          obtain ⟨z, z1, z2⟩ := r.atI c
          exact ix_list ea eb pins s σ H _ _ u u' Q I rv rw' ⟨_, _, _, z, rfl, rfl, SqL.of (sm.fr _ _ p), z1, h G H _ .refl sm z2⟩ hs
      · exact h.elim
    · split at h
      · rename_i c
        cases rx with
        | tup p r =>
          obtain ⟨z, z1, z2⟩ := r.atI c
          exact ix_tup ea eb pins s σ H _ _ u u' Q I rv rw' ⟨_, _, _, z, rfl, rfl, SqT.mono p sm.fr, z1, h G H _ .refl sm z2⟩ hs
      · exact h.elim
    · split at h
      · rename_i c
        cases rx with
        | src p r =>
          obtain ⟨z, z1, z2⟩ := r.atI c
          exact ix_list ea eb pins s σ H _ _ u u' Q I rv rw' ⟨_, _, _, z, rfl, rfl, SqL.mono p sm.fr, z1, h G H _ .refl sm z2⟩ hs
      · exact h.elim
    · split at h
      · rename_i c0
        split at h
        · rename_i c
          obtain ⟨p, vs, rfl, _, h1, r⟩ := sm.list c0 rx
          obtain ⟨z, z1, z2⟩ := r.atI c
          exact ix_list ea eb pins s σ H _ _ u u' Q I rv rw' ⟨_, _, _, z, rfl, rfl, SqL.of h1, z1, h G H _ .refl sm z2⟩ hs
        · exact h.elim
      · exact h.elim
    · split at h
      · rename_i c0
        split at h
        · rename_i c
          cases rx
          exact ix_str ea eb pins s σ H _ _ u u' Q I rv rw' ⟨_, _, _, rfl, rfl, c0, c, h G H _ .refl sm (.str _)⟩ hs
        · exact h.elim
      · exact h.elim
    · exact h.elim
  · exact h.elim
theorem qe_ix (ha : QE X a ma) (hb : QE X b mb) (hs : PlainIx b := by exact fun _ _ => rfl) : QE X (.Subscript a b pos) (bin ixG ma mb) :=
  qe_of (pe_ix ixR ha hb hs) fun ρ S G σ H Q sm re h => by
    refine ⟨ρ, S, G, sm, re, (sat.bind h).imp fun v H1 w => ?_⟩
    obtain ⟨x, S1, G1, le1, sm1, r1, q1⟩ := w
    refine ⟨ρ, S1, G1, sm1, re.mono le1.le, (sat.bind q1).imp fun v' H2 w => ?_⟩
    obtain ⟨y, S2, G2, le2, sm2, r2, q2⟩ := w
    exact ⟨x, y, S2, G2, sm2, r1.mono le2.le, r2, q2⟩
end
/-- a part of a slice -/
abbrev MO := Ev → Sto → Out (Option Int)
def tO (X : Cx) (m : MO) : L2.St → Hp → (Option Int → Hp → Prop) → Prop := fun σ H Q => ∃ ρ S G, Sm X.K G S H ∧ Re X.K G ρ σ ∧ sat X (fun _ a b => a = b) G H (m ρ S) Q
abbrev QO (X : Cx) (e : Option Expr) (m : MO) : Prop := PO X e (tO X m)
def oNo : MO := fun _ S => .ok none S
def oSo (m : ME) : MO := fun ρ S => (m ρ S).bind fun d S1 => match d with
  | .int i => .ok (some i) S1
  | _ => .no
def cutD {α : Type} (xs : List α) (lo hi : Option Int) : List α := (xs.drop (HT.sIx xs.length 0 lo)).take (HT.sIx xs.length xs.length hi - HT.sIx xs.length 0 lo)
theorem cutD_whole {α : Type} {xs : List α} {lo hi : Option Int} (h : HT.sIx xs.length 0 lo = 0 ∧ HT.sIx xs.length xs.length hi = xs.length) : cutD xs lo hi = xs := by
  unfold cutD
  rw [h.1, h.2]
  simp
def slG (x : D) (lo hi : Option Int) (S : Sto) : Out D := match x with
  | .lst xs => .ok (.lst (cutD xs lo hi)) S
  | .src xs => .ok (.lst (cutD xs lo hi)) S
  | .tup xs => .ok (.tup (cutD xs lo hi)) S
  | .str z => if z.length ≤ sizeLine then .ok (.str (cutS z lo hi)) S else .no
  | .loc n => match S[n]? with
    | some (.lst xs) => .ok (.lst (cutD xs lo hi)) S
    | _ => .no
  | _ => .no
def sli (m : ME) (l h : MO) : ME := fun ρ S => (m ρ S).bind fun x S1 => (l ρ S1).bind fun lo S2 => (h ρ S2).bind fun hi S3 => slG x lo hi S3
theorem Rps.cutV {K : PySem.W.Frag} {G : Gh} {xs : List D} {vs : List V} (r : Rps K G xs vs) (lo hi : Option Int) : Rps K G (cutD xs lo hi) (L2.cutV vs lo hi) := by
  unfold cutD L2.cutV
  rw [r.length]
  exact (r.drop _).take _
section
variable {X : Cx} {e : Expr} {lo hi : Option Expr} {m : ME} {ml mh : MO} {p2 pos : Pos}
theorem qo_none : QO X none oNo := ⟨fun pins s σ H Q I ⟨ρ, S, G, sm, re, q⟩ => po_none.run pins s σ H Q I (q G H none .refl sm rfl)⟩
theorem qo_some (h : QE X e m) : QO X (some e) (oSo m) := ⟨fun pins s σ H Q I ⟨ρ, S, G, sm, re, q⟩ => (po_some h).run pins s σ H Q I (by
  refine ⟨ρ, S, G, sm, re, (sat.bind q).imp fun v H1 w => ?_⟩
  obtain ⟨d, S1, G1, le1, sm1, r1, q1⟩ := w
  cases r1 with
  | int i => exact ⟨i, rfl, q1 G1 H1 _ .refl sm1 rfl⟩
  | _ => exact q1.elim)⟩
theorem slR : SlR X (fun v lo hi H Q => ∃ x S G, Sm X.K G S H ∧ Rp X.K G x v ∧ sat X (Rp X.K) G H (slG x lo hi S) Q) := fun pins s σ H v u vl vu lo hi sl Q I rv hs pl pu ⟨x, S, G, sm, rx, h⟩ => by
  unfold slG at h
  split at h
  · cases rx with
    | lst p r => exact sl_list pins s σ H _ u vl vu lo hi sl Q I rv hs pl pu ⟨_, _, rfl, SqL.of (sm.fr _ _ p), fun l hl => new_lst sm hl (r.cutV lo hi) h⟩
  · cases rx with
    | src p r => exact sl_list pins s σ H _ u vl vu lo hi sl Q I rv hs pl pu ⟨_, _, rfl, SqL.mono p sm.fr, fun l hl => new_lst sm hl (r.cutV lo hi) h⟩
  · cases rx with
    | tup p r =>
      refine sl_tupA pins s σ H _ u vl vu lo hi sl Q I rv hs pl pu ⟨_, _, rfl, SqT.mono p sm.fr, fun e => ?_, fun _ l hl => new_tup sm hl (r.cutV lo hi) h⟩
      rw [r.length] at e
      rw [cutD_whole e] at h
      exact h G H _ .refl sm (.tup p r)
  · split at h
    · rename_i c
      cases rx
      exact sl_str pins s σ H _ u vl vu lo hi sl Q I rv hs pl pu ⟨_, rfl, c, h G H _ .refl sm (.str _)⟩
    · exact h.elim
  · split at h
    · rename_i c
      obtain ⟨p, vs, rfl, _, h1, r⟩ := sm.list c rx
      exact sl_list pins s σ H _ u vl vu lo hi sl Q I rv hs pl pu ⟨_, _, rfl, SqL.of h1, fun l hl => new_lst sm hl (r.cutV lo hi) h⟩
    · exact h.elim
  · exact h.elim
theorem qe_sli (h : QE X e m) (hl : QO X lo ml) (hh : QO X hi mh) : QE X (.Subscript e (.Slice lo hi none p2) pos) (sli m ml mh) :=
  qe_of (pe_slice slR h hl hh) fun ρ S G σ H Q sm re h => by
    refine ⟨ρ, S, G, sm, re, (sat.bind h).imp fun v H1 w => ?_⟩
    obtain ⟨x, S1, G1, le1, sm1, r1, q1⟩ := w
    refine ⟨ρ, S1, G1, sm1, re.mono le1.le, (sat.bind q1).imp fun l H2 w => ?_⟩
    obtain ⟨l', S2, G2, le2, sm2, r2, q2⟩ := w
    subst r2
    refine ⟨ρ, S2, G2, sm2, (re.mono le1.le).mono le2.le, (sat.bind q2).imp fun u H3 w => ?_⟩
    obtain ⟨u', S3, G3, le3, sm3, r3, q3⟩ := w
    subst r3
    exact ⟨x, S3, G3, sm3, (r1.mono le2.le).mono le3.le, q3⟩
end
/-! ### instances: fields, kinds -/
/-- the class and the fields of an instance -/
def insOf (S : Sto) (d : D) : Option (String × List (String × D)) := match d with
  | .obj c fs => some (c, fs)
  | .loc n => match S[n]? with
    | some (.ins c fs) => some (c, fs)
    | _ => none
  | _ => none
theorem Sm.ins {K : PySem.W.Frag} {G : Gh} {S : Sto} {H : Hp} (sm : Sm K G S H) {d : D} {v : V} {c : String} {fs : List (String × D)} (e : insOf S d = some (c, fs)) (r : Rp K G d v) : ∃ a dx ws, v = .ref a ∧ H a = some (.ins (He.ga K (Str.ofString c)) dx ws) ∧ Rpf K G fs ws := by
  unfold insOf at e
  split at e
  · cases e
    cases r with
    | obj h r => exact ⟨_, _, _, rfl, sm.fr _ _ h, r⟩
  · split at e
    · rename_i q
      cases e
      cases r with
      | loc h =>
        obtain ⟨_, dx, ws, h1, h2⟩ := sm.addr q (by simp) h
        exact ⟨_, dx, ws, rfl, h1, h2⟩
    · cases e
  · cases e
/-- d.f, of the classes cs -/
def fldG (cs : List String) (f : String) : G1 := fun d S => match insOf S d with
  | some (c, fs) => if cs.contains c = true then match fs.lookup f with
      | some x => .ok x S
      | none => .no
    else .no
  | none => .no
/-- what is known of a class -/
structure CF (K : PySem.W.Frag) (c : String) : Prop where
  cl : Cls K (He.ga K (Str.ofString c))
  ca : PySem.W.findIn K (.ref (He.ga K (Str.ofString c))) "__class__" = some (some (.builtin "object.__class__"))
  cg : PySem.W.specialIn K (.builtin "object.__class__") "__get__" = some (some (.builtin "getset_descriptor.__get__"))
  ct : PySem.W.takesIn K (.builtin "object.__class__") = some true
  mo : PySem.W.mroIn K (He.ga K (Str.ofString c)) (.type "object") = some true
section
variable {X : Cx} {e : Expr} {m : ME} {pos : Pos}
theorem qe_fld {cs : List String} {f : String} (hc : ∀ c ∈ cs, Cls X.K (He.ga X.K (Str.ofString c)) ∧ NoAttr X.K (He.ga X.K (Str.ofString c)) (Str.ofString f)) (h : QE X e m) (hb : attributeBase e (Str.ofString f) X.env (eval e X.env) = eval e X.env := by rfl) : QE X (.Attribute e (Str.ofString f) pos) (una (fldG cs f) m) :=
  qe_of (pe_fld h hb) fun ρ S G σ H Q sm re h => by
    refine ⟨ρ, S, G, sm, re, (sat.bind h).imp fun v H1 w => ?_⟩
    obtain ⟨x, S1, G1, le1, sm1, r1, q1⟩ := w
    unfold fldG at q1
    split at q1
    · rename_i c fs ei
      split at q1
      · rename_i hm
        split at q1
        · rename_i y hl
          obtain ⟨a, dx, ws, rfl, ha, rf⟩ := sm1.ins ei r1
          obtain ⟨z, hz, rz⟩ := rf.at hl
          have hk := hc c (List.contains_iff_mem.mp hm)
          exact ⟨a, _, dx, ws, z, rfl, ha, hk.1, hk.2, hz, q1 G1 H1 z .refl sm1 rz⟩
        · exact q1.elim
      · exact q1.elim
    · exact q1.elim
/-- d.f = e -/
def sFldS (cs : List String) (f : String) (o m : ME) : MS := fun ρ S => (m ρ S).bind fun y S1 => (o ρ S1).bind fun x S2 => match x with
  | .loc n => match S2[n]? with
    | some (.ins c fs) => if cs.contains c = true ∧ fs.length < 1000 then .ok (.nx ρ) (S2.set n (.ins c (putD f y fs))) else .no
    | _ => .no
  | _ => .no
theorem qs_fld {cs : List String} {f : String} {o : Expr} {mo : ME} {pos' : Pos} (hc : ∀ c ∈ cs, Cls X.K (He.ga X.K (Str.ofString c)) ∧ NoAttr X.K (He.ga X.K (Str.ofString c)) (Str.ofString f)) (ho : QE X o mo) (h : QE X e m)
    (hs : swapsWith e (some (.Attribute o (Str.ofString f) pos')) pos.line X.env = pure false := by rfl) : QS X (.Assign [.Attribute o (Str.ofString f) pos'] e pos) (sFldS cs f mo m) :=
  qs_of (ps_fld ho h hs) fun ρ S G σ H Q sm re h => by
    refine ⟨ρ, S, G, sm, re, (satS.bind h).imp fun v H1 w => ?_⟩
    obtain ⟨y, S1, G1, le1, sm1, r1, q1⟩ := w
    refine ⟨ρ, S1, G1, sm1, re.mono le1.le, (satS.bind q1).imp fun v' H2 w => ?_⟩
    obtain ⟨x, S2, G2, le2, sm2, r2, q2⟩ := w
    cases r2 with
    | loc hf =>
      simp only at q2
      split at q2
      · rename_i c fs hl
        split at q2
        · rename_i hm
          obtain ⟨hF, dx, ws, ha, rf⟩ := sm2.addr hl (by simp) hf
          have hk := hc c (List.contains_iff_mem.mp hm.1)
          refine ⟨_, _, dx, ws, rfl, ha, hk.1, hk.2, by rw [rf.length]; exact hm.2, ?_⟩
          exact q2 G2 _ σ (Stp.write hf) (sm2.write hl (by simp) hf ⟨dx, _, upd_same, rf.put (r1.mono le2.le)⟩) ((re.mono le1.le).mono le2.le)
        · exact q2.elim
      · exact q2.elim
    | _ => exact q2.elim
end
/-- the kind of a value -/
inductive Ty where
  | b (n : String) | c (n : String)
def tyD (S : Sto) (d : D) : Option Ty := match d with
  | .non => some (.b "NoneType")
  | .bl _ => some (.b "bool")
  | .int _ => some (.b "int")
  | .str _ => some (.b "str")
  | .tup _ => some (.b "tuple")
  | .lst _ => some (.b "list")
  | .dic0 => some (.b "dict")
  | .hob o => match o with
    | .dK _ => some (.b "dict")
    | _ => none
  | .obj c _ => some (.c c)
  | .loc n => match S[n]? with
    | some (.lst _) => some (.b "list")
    | some (.ins c _) => some (.c c)
    | _ => none
  | _ => none
def tyV' (K : PySem.W.Frag) : Ty → Value
  | .b n => .type n
  | .c n => .ref (He.ga K (Str.ofString n))
theorem tyX {K : PySem.W.Frag} {G : Gh} {S : Sto} {H : Hp} (sm : Sm K G S H) {d : D} {v : V} {t : Ty} (e : tyD S d = some t) (r : Rp K G d v) (hc : ∀ n, t = .c n → CF K n) : TyX K H v (tyV' K t) := by
  cases r with
  | non => cases e; exact .base .non
  | bl b => cases e; exact .base (.bl b)
  | int i => cases e; exact .base (.int i)
  | str x => cases e; exact .base (.str x)
  | tup h r =>
    cases e
    rcases SqT.mono h sm.fr with (q | ⟨o, q⟩) | ⟨o, its, n, q, c, _⟩
    · exact .base (.tup q)
    · exact .fTuple q
    · exact .kTuple q c
  | lst h r => cases e; exact .base (.lst (sm.fr _ _ h))
  | dic0 h => cases e; exact .base (.dK (sm.fr _ _ h))
  | @hob o a h =>
    cases o with
    | dK kvs => cases e; exact .base (.dK (sm.fr _ _ h))
    | _ => cases e
  | obj h r =>
    cases e
    have k := hc _ rfl
    exact .base (.ins (sm.fr _ _ h) k.cl k.ca k.cg k.ct k.mo)
  | @loc n a h =>
    unfold tyD at e
    simp only at e
    split at e
    · rename_i xs q
      cases e
      obtain ⟨_, vs, h1, _⟩ := sm.addr q (by simp) h
      exact .base (.lst h1)
    · rename_i c fs q
      cases e
      have k := hc _ rfl
      obtain ⟨_, dx, ws, h1, _⟩ := sm.addr q (by simp) h
      exact .base (.ins h1 k.cl k.ca k.cg k.ct k.mo)
    · cases e
  | _ => cases e
/-- the six built-in kinds -/
def six : List String := ["NoneType", "bool", "int", "str", "tuple", "list", "dict"]
def subT (n T : String) : Bool := decide (n = T) || (decide (n = "bool") && decide (T = "int"))
theorem kit_six : ∀ n ∈ six, ∀ T ∈ six, kitB n T = some (subT n T) := by decide +kernel
theorem tyD_six {S : Sto} {d : D} {n : String} (h : tyD S d = some (.b n)) : n ∈ six := by
  unfold tyD at h
  split at h <;> first | (cases h; decide) | (cases h; done) | skip
  all_goals (split at h <;> first | (cases h; decide) | cases h)
/-- isinstance(x, T), T one of the six; cs: classes that are none of them -/
def isiB (T : String) (cs : List String) (t : Ty) : Option Bool := match t with
  | .b n => some (subT n T)
  | .c n => if cs.contains n = true then some false else none
/-- isinstance(x, C): of a value of the six kinds no; of an instance by the table -/
def isiC (τ : List (String × Bool)) (t : Ty) : Option Bool := match t with
  | .b _ => some false
  | .c n => τ.lookup n
def isiF (ans : Ty → Option Bool) (cls : D → Bool) : Fn := fun ds S => match ds with
  | [x, c] => if cls c = true then match tyD S x with
      | some t => match ans t with
        | some b => .ok (.bl b) S
        | none => .no
      | none => .no
    else .no
  | _ => .no
def isTy (T : String) : D → Bool
  | .ty n => decide (n = T)
  | _ => false
def isCl (C : String) : D → Bool
  | .cls n => decide (n = C)
  | _ => false
section
variable {X : Cx}
theorem cf_isi {ans : Ty → Option Bool} {cls : D → Bool} {w : Value} (hcl : ∀ c, cls c = true → ∀ G v, Rp X.K G c v → ClsV v w) (hans : ∀ t b, (∀ n, t = .b n → n ∈ six) → ans t = some b → PySem.W.kitOne X.K (tyV' X.K t) w = some b ∧ ∀ n, t = .c n → CF X.K n) :
    CallF X (.builtin "isinstance") (isiF ans cls) := fun pins s σ H vs us Q I rv ⟨ds, S, G, sm, r, h⟩ => by
  unfold isiF at h
  split at h
  · split at h
    · rename_i x c hcc
      split at h
      · rename_i t ht
        split at h
        · rename_i b hb
          obtain ⟨v, u, rfl, q, q'⟩ := vals2' r
          obtain ⟨k1, k2⟩ := hans t b (fun n e => by subst e; exact tyD_six ht) hb
          exact call_isi pins s σ H _ us Q I rv ⟨v, u, _, w, b, rfl, hcl c hcc G u q', tyX sm ht q k2, k1, h G H _ .refl sm (.bl b)⟩
        · exact h.elim
      · exact h.elim
    · exact h.elim
  · exact h.elim
theorem cf_isiB {T : String} {cs : List String} (hT : T ∈ six) (hc : ∀ c ∈ cs, CF X.K c ∧ PySem.W.kitOne X.K (.ref (He.ga X.K (Str.ofString c))) (.type T) = some false) : CallF X (.builtin "isinstance") (isiF (isiB T cs) (isTy T)) :=
  cf_isi (w := .type T) (fun c h G v r => by
    cases r <;> simp [isTy] at h
    subst h
    exact .ty _) fun t b h6 e => by
    match t, e with
    | .b n, e =>
      cases e
      exact ⟨kit_ty (kit_six n (h6 n rfl) T hT), fun m z => by cases z⟩
    | .c n, e =>
      simp only [isiB] at e
      split at e
      · rename_i hm
        cases e
        have k := hc n (List.contains_iff_mem.mp hm)
        exact ⟨k.2, fun m z => by cases z; exact k.1⟩
      · cases e
theorem cf_isiC {C : String} {τ : List (String × Bool)} (h6 : ∀ n ∈ six, PySem.W.kitOne X.K (.type n) (.ref (He.ga X.K (Str.ofString C))) = some false) (hc : ∀ c b, τ.lookup c = some b → CF X.K c ∧ PySem.W.kitOne X.K (.ref (He.ga X.K (Str.ofString c))) (.ref (He.ga X.K (Str.ofString C))) = some b) :
    CallF X (.builtin "isinstance") (isiF (isiC τ) (isCl C)) :=
  cf_isi (w := .ref (He.ga X.K (Str.ofString C))) (fun c h G v r => by
    cases r <;> simp [isCl] at h
    subst h
    exact .own _) fun t b hs e => by
    match t, e with
    | .b n, e =>
      cases e
      exact ⟨h6 n (hs n rfl), fun m z => by cases z⟩
    | .c n, e =>
      have k := hc n b e
      exact ⟨k.2, fun m z => by cases z; exact k.1⟩
end
end PV
set_option Elab.async false
set_option linter.all false
set_option maxRecDepth 100000
set_option maxHeartbeats 4000000
namespace PV
open PySem PySem.Spec PyProof.Rows L2 ZL
/-! ### targets -/
inductive Tg where
  | nm (i : Nat) | tp (is : List Nat) | tn (i : Nat) (is : List Nat)
def Tg.slots : Tg → List Nat
  | .nm i => [i]
  | .tp is => is
  | .tn i is => i :: is
def setAll : List Nat → List D → Ev → Option Ev
  | [], [], ρ => some ρ
  | i :: is, d :: ds, ρ => setAll is ds (ρ.set i (some d))
  | _, _, _ => none
def setT (T : Tg) (d : D) (ρ : Ev) : Option Ev := match T with
  | .nm i => some (ρ.set i (some d))
  | .tp is => match d with
    | .tup ds => setAll is ds ρ
    | _ => none
  | .tn i is => match d with
    | .tup [a, .tup ds] => setAll is ds (ρ.set i (some a))
    | _ => none
def tG (X : Cx) (T : Tg) : TG := fun v σ H Q => ∃ d ρ ρ' G, (∀ a o, G.F a = some o → H a = some o) ∧ Re X.K G ρ σ ∧ Rp X.K G d v ∧ setT T d ρ = some ρ' ∧ ∀ σ', Re X.K G ρ' σ' → (∀ vs, (∀ i ∈ T.slots, i ∈ vs) → wipe σ' vs = wipe σ vs) → Q σ' H
abbrev QG (X : Cx) (tg : Expr) (T : Tg) : Prop := PG X tg (tG X T)
theorem wipe_set {σ : L2.St} {i : Nat} {v : Option V} : ∀ {vs : List Nat}, i ∈ vs → wipe (σ.set i v) vs = wipe σ vs
  | [], h => by simp at h
  | j :: vs, h => by
    unfold wipe
    by_cases e : i ∈ vs
    · rw [wipe_set e]
    · rcases List.mem_cons.mp h with q | q
      · subst q
        have go : ∀ us : List Nat, i ∉ us → (wipe (σ.set i v) us) = (wipe σ us).set i v := by
          intro us
          induction us with
          | nil => intro _; rfl
          | cons k us ih =>
            intro hn
            unfold wipe
            rw [ih fun z => hn (List.mem_cons_of_mem _ z), List.set_comm]
            intro z
            exact hn (by rw [z]; exact List.mem_cons_self)
        rw [go vs e, List.set_set]
      · exact absurd q e
/-- the targets of a tuple -/
def tGs (X : Cx) (is : List Nat) : TGs := fun vs σ H Q => ∃ ds ρ ρ' G, (∀ a o, G.F a = some o → H a = some o) ∧ Re X.K G ρ σ ∧ Rps X.K G ds vs ∧ setAll is ds ρ = some ρ' ∧ ∀ σ', Re X.K G ρ' σ' → (∀ us, (∀ i ∈ is, i ∈ us) → wipe σ' us = wipe σ us) → Q σ' H
section
variable {X : Cx} {pos : Pos}
theorem qg_name (i : Nat) {x : Str} (hN : X.N.Nodup) (hi : X.N[i]? = some x := by rfl) (hx : Loc X.env.scope x := by first | exact .inl rfl | exact .inr rfl) (hf : X.fn x = true ∨ X.env.scope.names.lookup x = some .local := by first | exact .inl rfl | exact .inr rfl) : QG X (.Name x pos) (.nm i) := by
  refine ⟨fun pins s σ H v u Q I r h => (pg_name hN hi hx hf).run pins s σ H v u Q I r ?_⟩
  obtain ⟨d, ρ, ρ', G, fr, re, rd, e, q⟩ := h
  cases e
  exact q _ (re.set i rd) fun vs hv => wipe_set (hv i List.mem_cons_self)
theorem qgs_nil : PGs X [] (tGs X []) := by
  refine ⟨fun pins s σ H vs us Q I r h => pgs_nil.run pins s σ H vs us Q I r ?_⟩
  obtain ⟨ds, ρ, ρ', G, fr, re, rd, e, q⟩ := h
  match ds, e with
  | [], e => cases e; cases rd; exact ⟨rfl, q σ re fun _ _ => rfl⟩
  | _ :: _, e => cases e
theorem qgs_cons (i : Nat) {x : Str} {es : List Expr} {is : List Nat} (hr : PGs X es (tGs X is)) (hN : X.N.Nodup) (hi : X.N[i]? = some x := by rfl) (hx : Loc X.env.scope x := by first | exact .inl rfl | exact .inr rfl) (hf : X.fn x = true ∨ X.env.scope.names.lookup x = some .local := by first | exact .inl rfl | exact .inr rfl)
    (hs : (assignEach (.Name x pos :: es) X.env).map (·.2) = assign (.Name x pos) X.env :: (assignEach es X.env).map (·.2) := by rfl) : PGs X (.Name x pos :: es) (tGs X (i :: is)) := by
  refine ⟨fun pins s σ H vs us Q I r h => (pgs_cons (pg_name (pos := pos) hN hi hx hf) hr hs).run pins s σ H vs us Q I r ?_⟩
  obtain ⟨ds, ρ, ρ', G, fr, re, rd, e, q⟩ := h
  match ds, rd, e with
  | [], _, e => cases e
  | d :: ds, .cons a b, e =>
    refine ⟨_, _, rfl, ds, _, ρ', G, fr, re.set i a, b, e, fun σ' r' w' => q σ' r' fun us hu => ?_⟩
    rw [w' us fun k hk => hu k (List.mem_cons_of_mem _ hk)]
    exact wipe_set (hu i List.mem_cons_self)
theorem qg_tup {es : List Expr} {kk n : Nat} {is : List Nat} (hc : X.calm = true) (h : PGs X es (tGs X is)) (hl : is.length = n) (hn : (assignEach es X.env).length = n := by rfl) (hst : (assignEach es X.env).findIdx? (·.1) = none := by rfl) : QG X (.Tuple es kk pos) (.tp is) := by
  refine ⟨fun pins s σ H v u Q I r z => (pg_tup hc h hn hst).run pins s σ H v u Q I r ?_⟩
  obtain ⟨d, ρ, ρ', G, fr, re, rd, e, q⟩ := z
  match d, rd, e with
  | .tup ds, .tup h1 r1, e =>
    have e' : setAll is ds ρ = some ρ' := e
    have len : ∀ (is : List Nat) (ds : List D) (ρ ρ' : Ev), setAll is ds ρ = some ρ' → ds.length = is.length := by
      intro is
      induction is with
      | nil => intro ds ρ ρ' h; cases ds with | nil => rfl | cons _ _ => cases h
      | cons i is ih => intro ds ρ ρ' h; cases ds with | nil => cases h | cons d ds => simp [ih ds _ _ h]
    exact ⟨_, _, rfl, SqT.mono h1 fr, by rw [r1.length, len _ _ _ _ e', hl], ds, ρ, ρ', G, fr, re, r1, e', q⟩
  | .non, _, e => cases e
  | .bl _, _, e => cases e
  | .int _, _, e => cases e
  | .str _, _, e => cases e
  | .lst _, _, e => cases e
  | .obj _ _, _, e => cases e
  | .loc _, _, e => cases e
  | .cls _, _, e => cases e
  | .fnc _, _, e => cases e
  | .ty _, _, e => cases e
  | .src _, _, e => cases e
  | .dic0, _, e => cases e
  | .hob _, _, e => cases e
  | .exc _ _, _, e => cases e
end
/-! ### what is walked -/
/-- the cell that is walked must stay -/
def Gd (o : Option Nat) (xs : List D) (S : Sto) : Prop := match o with
  | none => True
  | some n => S[n]? = some (.lst xs)
structure WalkD (K : PySem.W.Frag) (G : Gh) (xs : List D) (o : Option Nat) (J : It) : Prop where
  goes : ∀ i G' S H, G.le G' → Sm K G' S H → Gd o xs S → i < xs.length → J.go i H
  stops : ∀ G' S H, G.le G' → Sm K G' S H → Gd o xs S → J.stop xs.length H
  yields : ∀ i G' S H x H' d, G.le G' → Sm K G' S H → Gd o xs S → xs[i]? = some d → J.yld i H x H' → ∃ G'', Stp G' H G'' H' ∧ Sm K G'' S H' ∧ Rp K G'' d x
abbrev MI := Ev → Sto → Out (List D × Option Nat)
def tI (X : Cx) (m : MI) : TI := fun σ H R => ∃ ρ S G, Sm X.K G S H ∧ Re X.K G ρ σ ∧ sat X (fun G' a (J : It) => WalkD X.K G' a.1 a.2 J) G H (m ρ S) (fun J H' => R J H')
abbrev QI (X : Cx) (tg iter : Expr) (m : MI) : Prop := PI X tg iter (tI X m)
theorem PI.or {X : Cx} {tg iter : Expr} {w w' : TI} (h : PI X tg iter w) (h' : PI X tg iter w') : PI X tg iter (fun σ H R => w σ H R ∨ w' σ H R) := ⟨fun pins s σ H R I z => z.elim (h.run pins s σ H R I) (h'.run pins s σ H R I)⟩
def itemsD (S : Sto) (d : D) : Option (List D × Option Nat) := match d with
  | .lst xs => some (xs, none)
  | .tup xs => some (xs, none)
  | .src xs => some (xs, none)
  | .loc n => match S[n]? with
    | some (.lst xs) => some (xs, some n)
    | _ => none
  | _ => none
/-- the signs of a text -/
def signs (z : Str) : List D := z.cps.toList.map fun c => .str ⟨#[c]⟩
/-- a list, a tuple, a text -/
def itemsI (S : Sto) (d : D) : Option (List D × Option Nat) := match d with
  | .str z => some (signs z, none)
  | d => itemsD S d
def iSeq (m : ME) : MI := fun ρ S => (m ρ S).bind fun d S1 => match itemsI S1 d with
  | some p => .ok p S1
  | none => .no
/-- lo, lo + 1, .. -/
def ups (lo : Int) (n : Nat) : List D := (List.range n).map fun i => .int (lo + (i : Nat))
def near62 (i : Int) : Bool := decide (-(2 ^ 62) ≤ i ∧ i < 2 ^ 62)
def iR1 (m : MA) : MI := fun ρ S => (m ρ S).bind fun ds S1 => match ds with
  | [.int j] => if near62 j = true then .ok (ups 0 j.toNat, none) S1 else .no
  | _ => .no
def iR2 (m : MA) : MI := fun ρ S => (m ρ S).bind fun ds S1 => match ds with
  | [.int i, .int j] => if near62 i = true ∧ near62 j = true then .ok (ups i (j - i).toNat, none) S1 else .no
  | _ => .no
def numbered (k : Int) : List D → List D
  | [] => []
  | x :: xs => .tup [.int k, x] :: numbered (k + 1) xs
def enD (ds : List D) (S1 : Sto) : Out (List D × Option Nat) := match ds with
  | [d] => match itemsD S1 d with
    | some (xs, none) => .ok (numbered 0 xs, none) S1
    | _ => .no
  | _ => .no
def iEn (m : MA) : MI := fun ρ S => (m ρ S).bind enD
theorem ups_length (lo : Int) (n : Nat) : (ups lo n).length = n := by simp [ups]
theorem ups_get {lo : Int} {n i : Nat} {d : D} (h : (ups lo n)[i]? = some d) : d = .int (lo + (i : Nat)) := by
  unfold ups at h
  rw [List.getElem?_map] at h
  cases e : (List.range n)[i]? with
  | none => rw [e] at h; cases h
  | some j =>
    rw [e] at h
    have := List.getElem?_eq_some_iff.mp e
    obtain ⟨h1, h2⟩ := this
    simp at h2
    subst h2
    exact (Option.some.inj h).symm
section
variable {K : PySem.W.Frag} {G : Gh}
theorem walkL {xs : List D} {vs : List V} {a : Addr} (h : SqL K G.F a vs) (r : Rps K G xs vs) : WalkD K G xs none (Itl K a) where
  goes := fun i G' S H le sm _ hi => walk_list.goes i H (by rw [r.length]; exact hi) (SqL.mono (SqL.mono h le.1) sm.fr)
  stops := fun G' S H le sm _ => by rw [← r.length]; exact walk_list.stops H (SqL.mono (SqL.mono h le.1) sm.fr)
  yields := fun i G' S H x H' d le sm _ hd y => by
    have hi : i < vs.length := by rw [r.length]; exact (List.getElem?_eq_some_iff.mp hd).1
    obtain ⟨rfl, hx⟩ := walk_list.yields i H x H' hi (SqL.mono (SqL.mono h le.1) sm.fr) y
    obtain ⟨d', h1, h2⟩ := r.get' hx
    rw [hd] at h1
    cases h1
    exact ⟨G', .refl, sm, h2.mono le⟩
theorem walkT {xs : List D} {vs : List V} {a : Addr} (h : SqT K G.F a vs) (r : Rps K G xs vs) : WalkD K G xs none (Itt K a) where
  goes := fun i G' S H le sm _ hi => walk_tup.goes i H (by rw [r.length]; exact hi) (SqT.mono (SqT.mono h le.1) sm.fr)
  stops := fun G' S H le sm _ => by rw [← r.length]; exact walk_tup.stops H (SqT.mono (SqT.mono h le.1) sm.fr)
  yields := fun i G' S H x H' d le sm _ hd y => by
    have hi : i < vs.length := by rw [r.length]; exact (List.getElem?_eq_some_iff.mp hd).1
    obtain ⟨rfl, hx⟩ := walk_tup.yields i H x H' hi (SqT.mono (SqT.mono h le.1) sm.fr) y
    obtain ⟨d', h1, h2⟩ := r.get' hx
    rw [hd] at h1
    cases h1
    exact ⟨G', .refl, sm, h2.mono le⟩
theorem walkC {xs : List D} {n : Nat} {a : Addr} (h : G.f n = some a) : WalkD K G xs (some n) (Itl K a) where
  goes := fun i G' S H le sm g hi => by
    obtain ⟨_, vs, h1, r⟩ := sm.addr g (by simp) (le.2 _ _ h)
    exact walk_list.goes i H (by rw [r.length]; exact hi) (SqL.of h1)
  stops := fun G' S H le sm g => by
    obtain ⟨_, vs, h1, r⟩ := sm.addr g (by simp) (le.2 _ _ h)
    rw [← r.length]
    exact walk_list.stops H (SqL.of h1)
  yields := fun i G' S H x H' d le sm g hd y => by
    obtain ⟨_, vs, h1, r⟩ := sm.addr g (by simp) (le.2 _ _ h)
    have hi : i < vs.length := by rw [r.length]; exact (List.getElem?_eq_some_iff.mp hd).1
    obtain ⟨rfl, hx⟩ := walk_list.yields i H x H' hi (SqL.of h1) y
    obtain ⟨d', h1, h2⟩ := r.get' hx
    rw [hd] at h1
    cases h1
    exact ⟨G', .refl, sm, h2⟩
theorem walkR {lo : Int} {n : Nat} : WalkD K G (ups lo n) none (Itr lo n) where
  goes := fun i G' S H le sm _ hi => walk_range.goes i H (by rw [ups_length] at hi; exact hi) trivial
  stops := fun G' S H le sm _ => by rw [ups_length]; exact walk_range.stops H trivial
  yields := fun i G' S H x H' d le sm _ hd y => by
    have hi : i < n := by have := (List.getElem?_eq_some_iff.mp hd).1; rw [ups_length] at this; exact this
    obtain ⟨rfl, rfl⟩ := walk_range.yields i H x H' hi trivial y
    rw [ups_get hd]
    exact ⟨G', .refl, sm, .int _⟩
theorem walkS {z : Str} : WalkD K G (signs z) none (Its z) where
  goes := fun i G' S H le sm _ hi => walk_str.goes i H (by simpa [signs] using hi) trivial
  stops := fun G' S H le sm _ => by
    have e : (signs z).length = z.cps.size := by simp [signs]
    rw [e]
    exact walk_str.stops H trivial
  yields := fun i G' S H x H' d le sm _ hd y => by
    have hi : i < z.cps.size := by have := (List.getElem?_eq_some_iff.mp hd).1; simpa [signs] using this
    obtain ⟨rfl, c, hc, rfl⟩ := walk_str.yields i H x H' hi trivial y
    have e : d = .str ⟨#[c]⟩ := by
      unfold signs at hd
      rw [List.getElem?_map, Array.getElem?_toList, hc] at hd
      exact (Option.some.inj hd).symm
    subst e
    exact ⟨G', .refl, sm, .str _⟩
end
section
variable {X : Cx} {tg e : Expr} {m : ME} {ms : MA} {p pos : Pos}
theorem qi_seq (h : QE X e m) : QI X tg e (iSeq m) := ⟨fun pins s σ H R I ⟨ρ, S, G, sm, re, q⟩ => (PI.or (pi_list h) (PI.or (pi_tup h) (pi_str h))).run pins s σ H R I (by
  match em : m ρ S, q with
  | .ex c fs S', q =>
    refine .inl ⟨ρ, S, G, sm, re, ?_⟩
    rw [em]
    have q' : sat X _ G H ((m ρ S).bind _) _ := q
    rw [em] at q'
    exact q'
  | .no, q =>
    have q' : sat X _ G H ((m ρ S).bind _) _ := q
    rw [em] at q'
    exact q'.elim
  | .ok d S1, q =>
    have q' : sat X _ G H ((m ρ S).bind _) _ := q
    rw [em] at q'
    have q'' : sat X (fun G' (a : List D × Option Nat) (J : It) => WalkD X.K G' a.1 a.2 J) G H (match itemsI S1 d with | some p => .ok p S1 | none => .no) (fun J H' => R J H') := q'
    clear q q'
    match d, q'' with
    | .lst xs, q => refine .inl ⟨ρ, S, G, sm, re, ?_⟩; rw [em]; intro G' H' v le sm' r; cases r with | lst a b => exact ⟨_, rfl, ⟨_, SqL.of (sm'.fr _ _ a)⟩, q G' H' _ le sm' (walkL (SqL.of a) b)⟩
    | .src xs, q => refine .inl ⟨ρ, S, G, sm, re, ?_⟩; rw [em]; intro G' H' v le sm' r; cases r with | src a b => exact ⟨_, rfl, ⟨_, SqL.mono a sm'.fr⟩, q G' H' _ le sm' (walkL a b)⟩
    | .str z, q => refine .inr (.inr ⟨ρ, S, G, sm, re, ?_⟩); rw [em]; intro G' H' v le sm' r; cases r; exact ⟨z, rfl, q G' H' _ le sm' walkS⟩
    | .tup xs, q => refine .inr (.inl ⟨ρ, S, G, sm, re, ?_⟩); rw [em]; intro G' H' v le sm' r; cases r with | tup a b => exact ⟨_, rfl, ⟨_, SqT.mono a sm'.fr⟩, q G' H' _ le sm' (walkT a b)⟩
    | .loc n, q =>
      refine .inl ⟨ρ, S, G, sm, re, ?_⟩
      rw [em]
      intro G' H' v le sm' r
      simp only [itemsI, itemsD] at q
      cases r with
      | loc hf =>
        match hn : S1[n]?, q with
        | some (.lst xs), q =>
          obtain ⟨_, vs, h1, h2⟩ := sm'.addr hn (by simp) hf
          exact ⟨_, rfl, ⟨_, SqL.of h1⟩, q G' H' _ le sm' (walkC hf)⟩
        | some (.ins _ _), q => exact q.elim
        | some .dead, q => exact q.elim
        | none, q => exact q.elim
    | .non, q => exact q.elim
    | .bl _, q => exact q.elim
    | .int _, q => exact q.elim
    | .obj _ _, q => exact q.elim
    | .cls _, q => exact q.elim
    | .fnc _, q => exact q.elim
    | .ty _, q => exact q.elim
    | .dic0, q => exact q.elim
    | .exc _ _, q => exact q.elim
    | .hob _, q => exact q.elim)⟩
theorem qi_range1 (hm : X.mg "range" = none) (ha : QA X [e] ms) (hg : Gl X "range" := by rfl) (hs : starEach [e] X.env = [(false, eval e X.env)] := by rfl) : QI X tg (.Call (.Name "range" p) [e] [] pos) (iR1 ms) := ⟨fun pins s σ H R I ⟨ρ, S, G, sm, re, q⟩ => (pi_range1 hg hm ha hs).run pins s σ H R I (by
  refine ⟨ρ, S, G, sm, re, (sat.bind q).imp fun v H1 w => ?_⟩
  obtain ⟨ds, S1, G1, le1, sm1, r1, q1⟩ := w
  split at q1
  · split at q1
    · rename_i c
      obtain ⟨v, rfl, r⟩ := vals1 r1
      cases r
      have c' := of_decide_eq_true c
      exact ⟨_, rfl, c'.1, c'.2, q1 G1 H1 _ .refl sm1 walkR⟩
    · exact q1.elim
  · exact q1.elim)⟩
end
end PV
set_option Elab.async false
set_option linter.all false
set_option maxRecDepth 100000
set_option maxHeartbeats 4000000
namespace PV
open PySem PySem.Spec PyProof.Rows L2 ZL
/-! ### for -/
open Classical in
noncomputable def forL (T : Tg) (b : MS) (o : Option Nat) (all : List D) : List D → Ev → Sto → Out Fl
  | [], ρ, S => if Gd o all S then .ok (.nx ρ) S else .no
  | x :: xs, ρ, S => if Gd o all S then match setT T x ρ with
      | some ρ1 => (b ρ1 S).bind fun f S1 => match f with
        | .nx ρ' => forL T b o all xs ρ' S1
        | .ct ρ' => forL T b o all xs ρ' S1
        | .bk ρ' => .ok (.nx ρ') S1
        | .rt d => .ok (.rt d) S1
      | none => .no
    else .no
noncomputable def sFor (T : Tg) (i : MI) (b : MS) : MS := fun ρ S => (i ρ S).bind fun p S1 => forL T b p.2 p.1 p.1 ρ S1
theorem drop_cons {α : Type} {xs : List α} {i : Nat} {x : α} (h : xs[i]? = some x) : xs.drop i = x :: xs.drop (i + 1) := by
  obtain ⟨h1, h2⟩ := List.getElem?_eq_some_iff.mp h
  rw [List.drop_eq_getElem_cons h1, h2]
theorem qs_for {X : Cx} {tg iter : Expr} {body : List Stmt} {T : Tg} {mi : MI} {mb : MS} {pos : Pos} (hp : PassesOwn (model X.prog X.w) X.A X.env X.xe) (hc : X.calm = true) (hi : QI X tg iter mi) (hg : QG X tg T) (hb : QSs X body mb)
    (hs : ∀ x, foldedSetIterable iter X.env x = pure x := by intro _; rfl) : QS X (.For tg iter body [] pos) (sFor T mi mb) := qs_of (ps_for hp hc hi hg hb hs) fun ρ0 S0 G0 σ0 H0 D sm0 re0 h => by
  classical
  refine ⟨ρ0, S0, G0, sm0, re0, (satS.bind (R := fun G' a (J : It) => WalkD X.K G' a.1 a.2 J) h).imp fun J H1 w => ?_⟩
  obtain ⟨⟨xs, o⟩, S1, G1, le1, sm1, wd, q1⟩ := w
  refine ⟨fun i m σ H => m = xs.length - i ∧ i ≤ xs.length ∧ ∃ ρ S G', G1.le G' ∧ Sm X.K G' S H ∧ Re X.K G' ρ σ ∧ satS X G' H (forL T mb o xs (xs.drop i) ρ S) D,
    ⟨xs.length, rfl, Nat.zero_le _, ρ0, S1, G1, .refl, sm1, re0.mono le1.le, q1⟩, ?_⟩
  rintro i m σ H ⟨rfl, hi', ρ, S, G', le, sm, re, q⟩
  by_cases hlt : i < xs.length
  · obtain ⟨x, hx⟩ : ∃ x, xs[i]? = some x := ⟨_, List.getElem?_eq_getElem hlt⟩
    rw [drop_cons hx] at q
    unfold forL at q
    split at q
    · rename_i gd
      refine .inr ⟨wd.goes i G' S H le sm gd hlt, fun σ' H' => ∃ ρ' S' G'', G1.le G'' ∧ Sm X.K G'' S' H' ∧ Re X.K G'' ρ' σ' ∧ satS X G'' H' (forL T mb o xs (xs.drop (i + 1)) ρ' S') D, fun σ' H' z => ⟨xs.length - (i + 1), by omega, rfl, hlt, z⟩, fun v H' y => ?_⟩
      obtain ⟨G'', st, sm', rv⟩ := wd.yields i G' S H v H' x le sm gd hx y
      split at q
      · rename_i ρ1 hset
        refine ⟨x, ρ, ρ1, G'', sm'.fr, re.mono st.le, rv, hset, fun σ2 re2 _ => ⟨ρ1, S, G'', sm', re2, ?_⟩⟩
        have q2 := q.mono st
        clear q
        match mb ρ1 S, q2 with
        | .ok (.nx ρ') S', q2 => exact fun G3 H3 σ3 st3 sm3 re3 => ⟨ρ', S', G3, le.trans (st.le.trans st3.le), sm3, re3, q2.mono st3⟩
        | .ok (.ct ρ') S', q2 => exact fun G3 H3 σ3 st3 sm3 re3 => ⟨ρ', S', G3, le.trans (st.le.trans st3.le), sm3, re3, q2.mono st3⟩
        | .ok (.bk ρ') S', q2 => exact q2
        | .ok (.rt d) S', q2 => exact q2
        | .ex _ _ _, q2 => exact q2
        | .no, q2 => exact q2
      · exact q.elim
    · exact q.elim
  · have e : i = xs.length := by omega
    subst e
    rw [List.drop_length] at q
    unfold forL at q
    split at q
    · rename_i gd
      exact .inl ⟨wd.stops G' S H le sm gd, q G' H σ .refl sm re⟩
    · exact q.elim
/-! ### list comprehensions -/
def wipeD (ρ : Ev) : List Nat → Ev
  | [] => ρ
  | v :: vs => (wipeD ρ vs).set v none
theorem Re.wipe {K : PySem.W.Frag} {G : Gh} {ρ : Ev} {σ : L2.St} (h : Re K G ρ σ) : ∀ vs : List Nat, Re K G (wipeD ρ vs) (L2.wipe σ vs)
  | [] => h
  | v :: vs => (Re.wipe h vs).forget v none
def tYs : MT := fun _ S => .ok true S
open Classical in
noncomputable def lcL (T : Tg) (t : MT) (e : ME) (o : Option Nat) (all : List D) (ρ : Ev) : List D → Sto → Out (List D)
  | [], S => if Gd o all S then .ok [] S else .no
  | x :: xs, S => if Gd o all S then match setT T x ρ with
      | some ρ1 => match t ρ1 S with
        | .ok true S1 => match e ρ1 S1 with
          | .ok d S2 => match lcL T t e o all ρ xs S2 with
            | .ok ds S3 => .ok (d :: ds) S3
            | _ => .no
          | _ => .no
        | .ok false S1 => lcL T t e o all ρ xs S1
        | _ => .no
      | none => .no
    else .no
noncomputable def lcO (T : Tg) (i : MI) (t : MT) (e : ME) : MA := fun ρ S => (i ρ S).bind fun p S1 => if p.1.length ≤ 1000 then lcL T t e p.2 p.1 (wipeD ρ T.slots) p.1 S1 else .no
noncomputable def lcE (T : Tg) (i : MI) (t : MT) (e : ME) : ME := fun ρ S => (lcO T i t e ρ S).bind fun ds S1 => .ok (.lst ds) S1
/-- nothing is raised -/
def satN {α β : Type} (K : PySem.W.Frag) (R : Gh → α → β → Prop) (G : Gh) (H : Hp) (o : Out α) (Q : β → Hp → Prop) : Prop := match o with
  | .ok a S' => ∀ G' H' b, Stp G H G' H' → Sm K G' S' H' → R G' a b → Q b H'
  | _ => False
theorem satN.sat {α β : Type} {X : Cx} {R : Gh → α → β → Prop} {G : Gh} {H : Hp} {o : Out α} {Q : β → Hp → Prop} (h : satN X.K R G H o Q) : sat X R G H o Q := by
  match o, h with
  | .ok _ _, h => exact h
def tEn (K : PySem.W.Frag) (m : ME) : TE := fun σ H Q => ∃ ρ S G, Sm K G S H ∧ Re K G ρ σ ∧ satN K (Rp K) G H (m ρ S) Q
def tTn (K : PySem.W.Frag) (m : MT) : TT := fun σ H Q => ∃ ρ S G, Sm K G S H ∧ Re K G ρ σ ∧ satN K (fun _ a b => a = b) G H (m ρ S) Q
theorem QE.n {X : Cx} {e : Expr} {m : ME} (h : QE X e m) : PE X e (tEn X.K m) := ⟨fun pins s σ H Q I ⟨ρ, S, G, sm, re, q⟩ => h.run pins s σ H Q I ⟨ρ, S, G, sm, re, q.sat⟩⟩
theorem QT.n {X : Cx} {e : Expr} {m : MT} (h : QT X e m) : PT X e (tTn X.K m) := ⟨fun pins s σ H Q I ⟨ρ, S, G, sm, re, q⟩ => h.run pins s σ H Q I ⟨ρ, S, G, sm, re, q.sat⟩⟩
theorem pts_yes {X : Cx} : PTs X [] (tTn X.K tYs) := ⟨fun pins s σ H Q I ⟨ρ, S, G, sm, re, q⟩ => pts_nil.run pins s σ H Q I (q G H true .refl sm rfl)⟩
/-- the reading of a comprehension -/
theorem lc_rd {X : Cx} {T : Tg} {mi : MI} {mt : MT} {me : ME} {K : PySem.W.Frag} (hK : X.K = K) {ρ0 : Ev} {S0 : Sto} {G0 : Gh} {σ0 : L2.St} {H0 : Hp} {Q : VK} {fz : Bool} (sm0 : Sm X.K G0 S0 H0) (re0 : Re X.K G0 ρ0 σ0)
    (h : sat X (Rp X.K) G0 H0 ((lcO T mi mt me ρ0 S0).bind fun ds S1 => if fz = true then .ok (.lst ds) S1 else .ok (.loc S1.length) (S1 ++ [.lst ds])) Q) :
    tLc (tI X mi) (fun v σ H Q => ∃ d ρ ρ' G, (∀ a o, G.F a = some o → H a = some o) ∧ Re K G ρ σ ∧ Rp K G d v ∧ setT T d ρ = some ρ' ∧ ∀ σ', Re K G ρ' σ' → (∀ vs, (∀ i ∈ T.slots, i ∈ vs) → wipe σ' vs = wipe σ vs) → Q σ' H) (tTn K mt) (tEn K me) T.slots σ0 H0 Q := by
  classical
  subst hK
  have h' : sat X (Rp X.K) G0 H0 ((mi ρ0 S0).bind fun p S1 => (if p.1.length ≤ 1000 then lcL T mt me p.2 p.1 (wipeD ρ0 T.slots) p.1 S1 else .no).bind fun ds S1 => if fz = true then .ok (.lst ds) S1 else .ok (.loc S1.length) (S1 ++ [.lst ds])) Q := by
    have e : ∀ (o : Out (List D × Option Nat)) (f : List D × Option Nat → Sto → Out (List D)) (g : List D → Sto → Out D), (o.bind f).bind g = o.bind fun p S => (f p S).bind g := fun o f g => by cases o <;> rfl
    have h2 := h
    unfold lcO at h2
    rw [e] at h2
    exact h2
  refine ⟨ρ0, S0, G0, sm0, re0, (sat.bind (R := fun G' a (J : It) => WalkD X.K G' a.1 a.2 J) h').imp fun J H1 w => ?_⟩
  obtain ⟨⟨xs, o⟩, S1, G1, st1, sm1, wd, q1⟩ := w
  intro p hp
  have q1' : sat X (Rp X.K) G1 H1 ((if xs.length ≤ 1000 then lcL T mt me o xs (wipeD ρ0 T.slots) xs S1 else .no).bind fun ds S1 => if fz = true then .ok (.lst ds) S1 else .ok (.loc S1.length) (S1 ++ [.lst ds])) Q := q1
  by_cases hlen : xs.length ≤ 1000
  · rw [if_pos hlen] at q1'
    have re1 := (re0.mono st1.le).wipe T.slots
    -- the invariant
    refine ⟨fun i m H => m = xs.length - i ∧ i ≤ xs.length ∧ ∃ S G' acc vs, Stp G1 H1 G' H ∧ Sm X.K G' S H ∧ H p = some (.lst vs) ∧ G'.F p = none ∧ (∀ n, G'.f n ≠ some p) ∧ Rps X.K G' acc vs ∧ acc.length ≤ i ∧
      sat X (Rp X.K) G1 H1 ((match lcL T mt me o xs (wipeD ρ0 T.slots) (xs.drop i) S with | .ok ds S3 => .ok (acc ++ ds) S3 | _ => .no : Out (List D)).bind fun ds S1 => if fz = true then .ok (.lst ds) S1 else .ok (.loc S1.length) (S1 ++ [.lst ds])) Q,
      ⟨xs.length, rfl, Nat.zero_le _, S1, G1, [], [], Stp.refl.at hp, sm1.other (sm1.free hp) (fun n e => by obtain ⟨u, hu, _⟩ := sm1.dn n p e; rw [hp] at hu; cases hu) (fun u hu => by rw [hp] at hu; cases hu), upd_same, sm1.free hp, (fun n e => by obtain ⟨u, hu, _⟩ := sm1.dn n p e; rw [hp] at hu; cases hu), .nil, Nat.le_refl _, ?_⟩, ?_⟩
    · rw [List.drop_zero]
      match hl : lcL T mt me o xs (wipeD ρ0 T.slots) xs S1, q1' with
      | .ok ds S3, q => exact q
      | .ex _ _ _, q =>
        exfalso
        have never : ∀ (ys : List D) (S : Sto) c fs S', lcL T mt me o xs (wipeD ρ0 T.slots) ys S ≠ .ex c fs S' := by
          intro ys
          induction ys with
          | nil => intro S c fs S'; unfold lcL; split <;> simp
          | cons y ys ih =>
            intro S c fs S'
            unfold lcL
            split
            · split
              · split
                · split
                  · split <;> simp
                  · simp
                · exact ih _ _ _ _
                · simp
              · simp
            · simp
        exact never _ _ _ _ _ hl
      | .no, q => exact q.elim
    rintro i m H ⟨rfl, hi, S, G', acc, vs, st, sm, hH, hF, hn, ra, hacc, q⟩
    by_cases hlt : i < xs.length
    · obtain ⟨x, hx⟩ : ∃ x, xs[i]? = some x := ⟨_, List.getElem?_eq_getElem hlt⟩
      rw [drop_cons hx] at q
      unfold lcL at q
      split at q
      rotate_left
      · exact q.elim
      rename_i ds' S3' hl
      split at hl
      · rename_i gd
        refine .inr ⟨wd.goes i G' S H st.le sm gd hlt, fun H' => ∃ S G' acc vs, Stp G1 H1 G' H' ∧ Sm X.K G' S H' ∧ H' p = some (.lst vs) ∧ G'.F p = none ∧ (∀ n, G'.f n ≠ some p) ∧ Rps X.K G' acc vs ∧ acc.length ≤ i + 1 ∧
          sat X (Rp X.K) G1 H1 ((match lcL T mt me o xs (wipeD ρ0 T.slots) (xs.drop (i + 1)) S with | .ok ds S3 => .ok (acc ++ ds) S3 | _ => .no : Out (List D)).bind fun ds S1 => if fz = true then .ok (.lst ds) S1 else .ok (.loc S1.length) (S1 ++ [.lst ds])) Q, fun H' z => ⟨xs.length - (i + 1), by omega, rfl, hlt, z⟩, fun v H' y => ?_⟩
        obtain ⟨G2, st2, sm2, rv⟩ := wd.yields i G' S H v H' x st.le sm gd hx y
        split at hl
        · rename_i ρ1 hset
          refine ⟨x, wipeD ρ0 T.slots, ρ1, G2, sm2.fr, (re1.mono st.le).mono st2.le, rv, hset, fun σ2 re2 hw => ⟨?_, ?_⟩⟩
          · rw [hw T.slots fun _ z => z]
            have idem : ∀ (us vs : List Nat), (∀ i ∈ us, i ∈ vs) → wipe (wipe σ0 us) vs = wipe σ0 vs := by
              intro us
              induction us with
              | nil => intro vs _; rfl
              | cons u us ih =>
                intro vs hv
                show wipe ((wipe σ0 us).set u none) vs = _
                rw [wipe_set (hv u List.mem_cons_self)]
                exact ih vs fun k hk => hv k (List.mem_cons_of_mem _ hk)
            exact idem _ _ fun _ z => z
          · refine ⟨ρ1, S, G2, sm2, re2, ?_⟩
            have hp2 : H' p = some (.lst vs) := st2.frm p _ hH (fun _ z => by cases z) hn
            have keep : ∀ {G3 : Gh} {H3 : Hp}, Stp G2 H' G3 H3 → H3 p = some (.lst vs) ∧ G3.F p = none ∧ ∀ n, G3.f n ≠ some p := fun {G3 H3} s3 => by
              have s := st2.trans s3
              refine ⟨s.frm p _ hH (fun _ z => by cases z) hn, ?_, fun n e => ?_⟩
              · cases e : G3.F p with
                | none => rfl
                | some u =>
                  rcases s.fro p u e with z | z | ⟨n, z⟩
                  · rw [hF] at z; cases z
                  · exact (fr0_not z hH (fun _ z => by cases z)).elim
                  · exact absurd z (hn n)
              · rcases s.new n p e with z | z
                · exact hn n z
                · exact fr0_not z hH (fun _ z => by cases z)
            split at hl
            · rename_i S4 ht
              rw [ht]
              intro G3 H3 b s3 sm3 eb
              subst eb
              refine ⟨ρ1, S4, G3, sm3, re2.mono s3.le, ?_⟩
              split at hl
              · rename_i d S5 he
                rw [he]
                intro G4 H4 w s4 sm4 rw4
                obtain ⟨k1, k2, k3⟩ := keep (s3.trans s4)
                refine ⟨vs, k1, ?_, S5, G4, acc ++ [d], vs ++ [w], ((st.trans st2).trans (s3.trans s4)).at hp, sm4.other k2 k3 (fun u hu => by rw [k1] at hu; cases hu; exact ⟨(fun _ z => by cases z), (fun _ z => by cases z)⟩), upd_same, k2, k3, ?_, ?_, ?_⟩
                · rw [ra.length, sizeLine_eq]; omega
                · exact (((ra.mono st2.le).mono s3.le).mono s4.le).append (.cons rw4 .nil)
                · simp; omega
                · split at hl
                  · rename_i ds2 S6 hl2
                    cases hl
                    have e2 : acc ++ [d] ++ ds2 = acc ++ d :: ds2 := by simp
                    simp only [e2]
                    exact q
                  · cases hl
              · cases hl
            · rename_i S4 ht
              rw [ht]
              intro G3 H3 b s3 sm3 eb
              subst eb
              obtain ⟨k1, k2, k3⟩ := keep s3
              refine ⟨S4, G3, acc, vs, (st.trans st2).trans s3, sm3, k1, k2, k3, (ra.mono st2.le).mono s3.le, by omega, ?_⟩
              rw [hl]
              exact q
            · cases hl
        · cases hl
      · cases hl
    · have e : i = xs.length := by omega
      subst e
      rw [List.drop_length] at q
      unfold lcL at q
      by_cases gd : Gd o xs S
      · rw [if_pos gd] at q
        refine .inl ⟨wd.stops G' S H st.le sm gd, ?_⟩
        have q2 : sat X (Rp X.K) G1 H1 (if fz = true then .ok (.lst (acc ++ [])) S else .ok (.loc S.length) (S ++ [.lst (acc ++ [])])) Q := q
        rw [List.append_nil] at q2
        cases fz with
        | true =>
          have q3 : sat X (Rp X.K) G1 H1 (.ok (.lst acc) S) Q := q2
          exact q3 (G'.put p (.lst vs)) H _ (st.add hp hF) (sm.tell hH hn) (.lst upd_same (ra.mono (Gh.put_le hF)))
        | false =>
          have q3 : sat X (Rp X.K) G1 H1 (.ok (.loc S.length) (S ++ [.lst acc])) Q := q2
          have hnl : G'.le (G'.new S.length p) := sm.new_le
          refine q3 (G'.new S.length p) H _ ⟨st.le.trans hnl, st.dom, st.frm, fun n a h => ?_, st.fro⟩ ?_ (.loc Gh.new_at)
          · have h' : (if n = S.length then some p else G'.f n) = some a := h
            by_cases z : n = S.length
            · rw [if_pos z] at h'
              cases h'
              exact .inr (fr0_none hp)
            · rw [if_neg z] at h'
              exact st.new n a h'
          · exact sm.adopt hH hF hn ⟨vs, hH, ra.mono hnl⟩
      · rw [if_neg gd] at q
        exact q.elim
  · rw [if_neg hlen] at q1'
    exact q1'.elim
end PV
set_option Elab.async false
set_option linter.all false
set_option maxRecDepth 100000
set_option maxHeartbeats 4000000
namespace PV
open PySem PySem.Spec PyProof.Rows L2 ZL
section
variable {X : Cx} {elt tg iter : Expr} {ifs : List Expr} {scope : Scope} {own : List (Str × Nat)} {pos : Pos} {mi : MI} {T : Tg} {mt : MT} {me : ME}
theorem qe_lc (T : Tg) (hown : own.map (·.2) = T.slots) (hc : X.calm = true) (hN : X.N.Nodup) (hi : QI X tg iter mi) (ok : BlkOk X.N X.env.scope scope own)
    (hg : ∀ (s : Shared) (H : Hp) (C : Addr) (cl : List (Str × Addr)) (fp : List Addr), QG (X.blk s H scope (compEnvC scope cl C X.env) fp) tg T)
    (ht : ∀ (s : Shared) (H : Hp) (C : Addr) (cl : List (Str × Addr)) (fp : List Addr), PTs (X.blk s H scope (compEnvC scope cl C X.env) fp) ifs (tTn X.K mt))
    (he : ∀ (s : Shared) (H : Hp) (C : Addr) (cl : List (Str × Addr)) (fp : List Addr), QE (X.blk s H scope (compEnvC scope cl C X.env) fp) elt me) (hs : ∀ x, foldedSetIterable iter X.env x = pure x := by intro _; rfl) :
    QE X (.ListComp elt [⟨tg, iter, ifs, 0⟩] scope pos) (lcE T mi mt me) :=
  qe_of (pe_lc hc hN hi ok hg ht (fun s H C cl fp => (he s H C cl fp).n) hs) fun ρ S G σ H Q sm re h => by
    rw [hown]
    exact lc_rd (fz := true) rfl sm re h
/-- y = [..] on one row -/
theorem qs_setLc (i : Nat) {y : Str} {py spos : Pos} (T : Tg) (hown : own.map (·.2) = T.slots) (hc : X.calm = true) (hN : X.N.Nodup) (hi : QI X tg iter mi) (ok : BlkOk X.N X.env.scope scope own)
    (hg : ∀ (s : Shared) (H : Hp) (C : Addr) (cl : List (Str × Addr)) (fp : List Addr), QG (X.blk s H scope (compEnvC scope cl C X.env) fp) tg T)
    (ht : ∀ (s : Shared) (H : Hp) (C : Addr) (cl : List (Str × Addr)) (fp : List Addr), PTs (X.blk s H scope (compEnvC scope cl C X.env) fp) ifs (tTn X.K mt))
    (he : ∀ (s : Shared) (H : Hp) (C : Addr) (cl : List (Str × Addr)) (fp : List Addr), QE (X.blk s H scope (compEnvC scope cl C X.env) fp) elt me)
    (hy : X.N[i]? = some y := by rfl) (hyl : X.env.scope.names.lookup y = some .local := by rfl)
    (hsw : swapsWith (.ListComp elt [⟨tg, iter, ifs, 0⟩] scope pos) (some (.Name y py)) spos.line X.env = pure true := by rfl) (hs : ∀ x, foldedSetIterable iter X.env x = pure x := by intro _; rfl) :
    QS X (.Assign [.Name y py] (.ListComp elt [⟨tg, iter, ifs, 0⟩] scope pos) spos) (sSet i (lcE T mi mt me)) :=
  qs_of (ps_setLc (te := tEn X.K me) hc hN hy hyl hsw hi ok hg ht (fun s H C cl fp => (he s H C cl fp).n) hs) fun ρ S G σ H D sm re h => by
    rw [hown]
    refine lc_rd (fz := true) rfl sm re ?_
    have z := satS.bind (R := Rp X.K) h
    exact z.imp fun x H1 w => by
      obtain ⟨d, S1, G1, le1, sm1, r1, q1⟩ := w
      exact q1 G1 H1 _ .refl sm1 ((re.mono le1.le).set i r1)
theorem qts_one {c : Expr} {t : MT} (h : QT X c t) : PTs X [c] (tTn X.K t) := pts_one h.n
end
/-! ### targets of assignments -/
def sAsg (T : Tg) (m : ME) : MS := fun ρ S => (m ρ S).bind fun d S1 => match setT T d ρ with
  | some ρ' => .ok (.nx ρ') S1
  | none => .no
/-- a, b = x, y: both local names -/
def sPar (i j : Nat) (ms : MA) : MS := fun ρ S => (ms ρ S).bind fun ds S1 => match ds with
  | [d, e] => .ok (.nx ((ρ.set i (some d)).set j (some e))) S1
  | _ => .no
/-- o[i] = e -/
def sSub (o i m : ME) : MS := fun ρ S => (m ρ S).bind fun y S1 => (o ρ S1).bind fun x S2 => (i ρ S2).bind fun k S3 => match x, k with
  | .loc n, .int k => match S3[n]? with
    | some (.lst xs) => match ixN xs.length k with
      | some j => .ok (.nx ρ) (S3.set n (.lst (xs.set j y)))
      | none => .no
    | _ => .no
  | _, _ => .no
section
variable {X : Cx} {e tg : Expr} {m : ME} {pos : Pos}
theorem qs_asg {T : Tg} (h : QE X e m) (hg : QG X tg T) (hs : swapsWithSole [tg] e pos.line X.env = pure false := by rfl) (hw : swappedStores [tg] e X.env = pure none := by rfl)
    (h1 : (assignEach [tg] X.env).map (·.2) = [assign tg X.env] := by rfl) : QS X (.Assign [tg] e pos) (sAsg T m) := qs_of (ps_asg h hg hs hw h1) fun ρ S G σ H D sm re z => by
  refine ⟨ρ, S, G, sm, re, (satS.bind z).imp fun x H1 w => ?_⟩
  obtain ⟨d, S1, G1, le1, sm1, r1, q1⟩ := w
  match hs : setT T d ρ, q1 with
  | some ρ', q1 =>
    refine ⟨d, ρ, ρ', G1, sm1.fr, re.mono le1.le, r1, hs, fun σ' re' _ => ?_⟩
    exact q1 G1 H1 σ' .refl sm1 re'
  | none, q1 => exact q1.elim
theorem qs_par (i j : Nat) {x y : Str} {a b : Expr} {ms : MA} {px py pt : Pos} {kt k2 pt2} (hc : X.calm = true) (ha : QA X [a, b] ms) (hN : X.N.Nodup) (hi : X.N[i]? = some x := by rfl) (hj : X.N[j]? = some y := by rfl) (hij : i ≠ j := by decide)
    (hx : X.env.scope.names.lookup x = some .local := by rfl) (hy : X.env.scope.names.lookup y = some .local := by rfl)
    (hw : swappedStores [.Tuple [.Name x px, .Name y py] kt pt] (.Tuple [a, b] k2 pt2) X.env = pure (some [x, y]) := by rfl)
    (hs : swapsWithSole [.Tuple [.Name x px, .Name y py] kt pt] (.Tuple [a, b] k2 pt2) pos.line X.env = pure false := by rfl) :
    QS X (.Assign [.Tuple [.Name x px, .Name y py] kt pt] (.Tuple [a, b] k2 pt2) pos) (sPar i j ms) := qs_of (ps_par hc hN hi hj hij hx hy ha hw hs) fun ρ S G σ H D sm re z => by
  refine ⟨ρ, S, G, sm, re, (satS.bind z).imp fun vs H1 w => ?_⟩
  obtain ⟨ds, S1, G1, le1, sm1, r1, q1⟩ := w
  match ds, r1, q1 with
  | [d, e], r1, q1 =>
    obtain ⟨v, w, rfl, rv, rw'⟩ := vals2' r1
    exact ⟨v, w, rfl, q1 G1 H1 _ .refl sm1 (((re.mono le1.le).set i rv).set j rw')⟩
  | [], _, q1 => exact q1.elim
  | [_], _, q1 => exact q1.elim
  | _ :: _ :: _ :: _, _, q1 => exact q1.elim
theorem qs_sub {o i : Expr} {mo mi : ME} {p : Pos} (ho : QE X o mo) (hi : QE X i mi) (h : QE X e m)
    (ha : ∀ v, assign (.Subscript o i p) X.env v = (do
      let ov ← holding [v] (eval o X.env)
      let iv ← holding [v, ov] (eval i X.env)
      standAt p
      holding [v, ov, iv] (setItem ov iv v)
      release [v, ov, iv] []) := by intro _; rfl)
    (hs : swapsWithSole [.Subscript o i p] e pos.line X.env = pure false := by rfl) (hw : swappedStores [.Subscript o i p] e X.env = pure none := by rfl)
    (h1 : (assignEach [.Subscript o i p] X.env).map (·.2) = [assign (.Subscript o i p) X.env] := by rfl) : QS X (.Assign [.Subscript o i p] e pos) (sSub mo mi m) := qs_of (ps_asg h (pg_sub ho hi set_list ha) hs hw h1) fun ρ S G σ H D sm re z => by
  refine ⟨ρ, S, G, sm, re, (satS.bind z).imp fun v H1 w => ?_⟩
  obtain ⟨y, S1, G1, le1, sm1, r1, q1⟩ := w
  refine ⟨ρ, S1, G1, sm1, re.mono le1.le, (satS.bind q1).imp fun v2 H2 w => ?_⟩
  obtain ⟨x, S2, G2, le2, sm2, r2, q2⟩ := w
  refine ⟨ρ, S2, G2, sm2, (re.mono le1.le).mono le2.le, (satS.bind q2).imp fun v3 H3 w => ?_⟩
  obtain ⟨k, S3, G3, le3, sm3, r3, q3⟩ := w
  split at q3
  · cases r3
    split at q3
    · rename_i xs hl
      split at q3
      · rename_i j hj
        obtain ⟨a, vs, rfl, hf, ha', rr⟩ := sm3.list hl (r2.mono le3.le)
        refine ⟨a, vs, _, j, rfl, rfl, ha', by rw [rr.length]; exact hj, ?_⟩
        exact q3 G3 _ σ (Stp.write hf) (sm3.write hl (by simp) hf ⟨_, upd_same, rr.set j ((r1.mono le2.le).mono le3.le)⟩) (((re.mono le1.le).mono le2.le).mono le3.le)
      · exact q3.elim
    · exact q3.elim
  · exact q3.elim
end
/-! ### methods of lists -/
section
variable {X : Cx} {o e : Expr} {es : List Expr} {mo : ME} {ms : MA} {apos cpos : Pos}
/-- o.m(..) of a list that may be written -/
def isLoc (S : Sto) : D → Bool
  | .loc n => match S[n]? with
    | some (.lst _) => true
    | _ => false
  | _ => false
def mthL (g : D → List D → Sto → Out D) (o : ME) (ms : MA) : ME := fun ρ S => (o ρ S).bind fun x S1 => if isLoc S1 x = true then (ms ρ S1).bind fun ds S2 => g x ds S2 else .no
end
/-! ### methods of texts -/
def isStr : D → Bool
  | .str _ => true
  | _ => false
def mthS (g : D → D → Sto → Out D) (o m : ME) : ME := fun ρ S => (o ρ S).bind fun x S1 => if isStr x = true then (m ρ S1).bind fun y S2 => g x y S2 else .no
theorem Rps.ints {K : PySem.W.Frag} {G : Gh} : ∀ ys : List Int, Rps K G (ys.map .int) (ys.map V.int)
  | [] => .nil
  | y :: ys => .cons (.int y) (Rps.ints ys)
section
variable {X : Cx} {o e : Expr} {mo m : ME} {apos pos : Pos}
def Mt1 (X : Cx) (id : String) (g : G2) : Prop := MtR X id (fun v vs H Q => ∃ x y w S G, Sm X.K G S H ∧ Rp X.K G x v ∧ vs = [w] ∧ Rp X.K G y w ∧ sat X (Rp X.K) G H (g x y S) Q)
theorem qe_mthS {id : String} {name : Str} {g : G2} (slot : Slot "str" name id) (ty : typeOf (.builtin id) = pure (.type "method_descriptor")) (rule : Mt1 X id g) (ho : QE X o mo) (he : QE X e m)
    (hs : starEach [e] X.env = [(false, eval e X.env)] := by rfl) (hbase : attributeBase o name X.env (eval o X.env) = eval o X.env := by rfl) (hline : (apos.endLine == pos.line) = true := by rfl) :
    QE X (.Call (.Attribute o name apos) [e] [] pos) (mthS g mo m) := qe_of (pe_m1 slot ty rule ho he hs hbase hline) fun ρ S G σ H Q sm re h => by
  refine ⟨ρ, S, G, sm, re, (sat.bind h).imp fun v H1 w => ?_⟩
  obtain ⟨x, S1, G1, le1, sm1, r1, q1⟩ := w
  split at q1
  · rename_i hl
    cases r1 with
    | str z =>
      refine ⟨⟨z, rfl⟩, ρ, S1, G1, sm1, re.mono le1.le, (sat.bind q1).imp fun u H2 w => ?_⟩
      obtain ⟨y, S2, G2, le2, sm2, r2, q2⟩ := w
      exact ⟨.str z, y, u, S2, G2, sm2, .str z, rfl, r2, q2⟩
    | _ => cases hl
  · exact q1.elim
end
/-! ### x op= e -/
def sAug (i : Nat) (g : G2) (m : ME) : MS := fun ρ S => match ρ[i]? with
  | some (some x) => (m ρ S).bind fun y S1 => (g x y S1).bind fun z S2 => .ok (.nx (ρ.set i (some z))) S2
  | _ => .no
section
variable {X : Cx} {e : Expr} {m : ME} {pos : Pos}
def addI : G2 := fun x y S => match x, y with
  | .int i, .int j => .ok (.int (i + j)) S
  | _, _ => .no
end
end PV
set_option Elab.async false
set_option linter.all false
set_option maxRecDepth 100000
set_option maxHeartbeats 4000000
namespace ZL
open PySem PySem.Spec PyProof.Rows L2
section
open PySem.W
variable {prog : Program} {w : World} {A : Around} {E : Value → Shared → Prop} {s : Shared} {K : Frag} {x C f dx : Addr} {od : Option Obj} {nm id : String} {B : Builtin} {i : Int} {t : Tok} {Q : Value → Shared → Prop}
end
end ZL
set_option Elab.async false
set_option linter.all false
set_option maxRecDepth 100000
set_option maxHeartbeats 4000000
namespace ZL
open PySem PySem.Spec PyProof.Rows L2
section
open PySem.W
variable {prog : Program} {w : World} {A : Around} {E : Value → Shared → Prop} {s : Shared} {K : Frag} {x C f dx : Addr} {od : Option Obj} {nm id : String} {i : Int} {t : Tok} {Q : Value → Shared → Prop}
end
section
open PySem.W (clsIn findIn subIn)
variable {X : Cx} {CX : CXT} {k : Nat} {f C : Addr} {sp : Sp} {E : XK} {pins : List (Addr × Obj)} {σ : L2.St} {H : Hp} {s : Shared}
/-- a class of the text below object alone -/
def Plain (K : PySem.W.Frag) (C : Addr) : Prop := ∃ cd, clsIn K C = some cd ∧ cd.mro = [.ref C, .type "object"]
end
end ZL
set_option Elab.async false
set_option linter.all false
set_option maxRecDepth 100000
set_option maxHeartbeats 4000000
namespace ZL
open PySem PySem.Spec PyProof.Rows L2
section
variable {M : Model} {A : Around} {E : Value → Shared → Prop} {s : Shared}
end
section
variable {X : Cx} {CX : CXT} {k : Nat} {f C : Addr} {sp : Sp} {E : XK}
end
end ZL
set_option Elab.async false
set_option linter.all false
set_option maxRecDepth 100000
set_option maxHeartbeats 4000000
namespace PV
open PySem PySem.Spec PyProof.Rows L2 ZL
/-- the address of a class -/
abbrev gaS (K : PySem.W.Frag) (c : String) : Addr := He.ga K (Str.ofString c)
theorem spO.mono {K : PySem.W.Frag} {G G1 : Gh} {H H1 : Hp} {o : Out D} {Q : VK} {E : XK} (h : spO K G H o Q E) (st : Stp G H G1 H1) : spO K G1 H1 o Q E := by
  match o, h with
  | .ok _ _, h => exact fun G' H' v s => h G' H' v (st.trans s)
  | .ex _ _ _, h => exact fun cls dd H' w => h cls dd H' (w.anti st)
  | .no, h => exact h
theorem spO.imp {K : PySem.W.Frag} {G : Gh} {H : Hp} {o : Out D} {Q Q' : VK} {E : XK} (h : spO K G H o Q E) (i : ∀ v H', Q v H' → Q' v H') : spO K G H o Q' E := by
  match o, h with
  | .ok _ _, h => exact fun G' H' v s m r => i _ _ (h G' H' v s m r)
  | .ex _ _ _, h => exact h
  | .no, h => exact h
/-! ### defs with *rest -/
section
variable {P : Program} {w : World} {K : PySem.W.Frag} {mg : Str → Option Value} {base : Heap} {x qual : Str} {st : Stmt} {kws : List (Str × V)} {f : Addr} {fd : FuncData} {N ps : List Str} {j : Nat} {b : MS}
end
/-! ### C(..) -/
theorem sat_gc {X : Cx} {G : Gh} {S : Sto} {H : Hp} {o : Out D} {Q : VK} (sm : Sm X.K G S H) (h : sat X (Rp X.K) G H (gcO S o) Q) : sat X (Rp X.K) G H o Q := by
  classical
  match o, h with
  | .ok d S', h =>
    intro G' H' v le sm' r
    by_cases c : d.und S.length = true ∧ Kept S S'
    · have e : gcO S (.ok d S') = .ok d (S'.take S.length) := if_pos c
      rw [e] at h
      exact h _ H' v (sm.cut_le le) (sm.cut sm' c.2) (r.cut c.1)
    · have e : gcO S (.ok d S') = .ok d S' := if_neg c
      rw [e] at h
      exact h G' H' v le sm' r
  | .ex x fs S', h =>
    by_cases c : belowf S.length fs = true ∧ Kept S S'
    · have e : gcO S (.ex x fs S') = .ex x fs (S'.take S.length) := if_pos c
      rw [e] at h
      exact Takes.imp h fun cls dd _ H' w => by
        obtain ⟨G', le, sm', r⟩ := w
        exact ⟨_, sm.cut_le le, sm.cut sm' c.2, r.cut c.1⟩
    · have e : gcO S (.ex x fs S') = .ex x fs S' := if_neg c
      rw [e] at h
      exact h
  | .no, h => exact h
/-- a new instance that is never written behind its __init__ -/
noncomputable def mkF (c : String) (F : Fn) : Fn := fun ds S => match F (.loc S.length :: ds) (S ++ [.ins c []]) with
  | .ok .non S2 => match S2[S.length]? with
    | some (.ins c' fs) => if c' = c then gcO S (.ok (.obj c fs) (S2.set S.length .dead)) else .no
    | _ => .no
  | .ex x fs S2 => gcO S (.ex x fs S2)
  | _ => .no
section
variable {X : Cx} {c : String} {F : Fn}
theorem new_ins {G : Gh} {S : Sto} {H : Hp} {x dx : Addr} (sm : Sm X.K G S H) (hx : H x = none) (hd : H dx = none) (ne : dx ≠ x) :
    Sm X.K (G.new S.length x) (S ++ [.ins c []]) (upd (upd H dx (.own x)) x (.ins (gaS X.K c) dx [])) ∧ Stp G H (G.new S.length x) (upd (upd H dx (.own x)) x (.ins (gaS X.K c) dx [])) := by
  have sm1 := sm.ext (Ext.upd (o := .own x) hd)
  have hx1 : upd H dx (.own x) x = none := by rw [upd_ne (Ne.symm ne)]; exact hx
  exact ⟨sm1.new hx1 ⟨dx, [], upd_same, .nil⟩, (Stp.ext (Ext.upd hd)).trans (Stp.cell sm1 hx1)⟩
theorem mk_rd {G : Gh} {S : Sto} {H : Hp} {ds : List D} {vs : List V} {Q : VK} (sm : Sm X.K G S H) (r : Rps X.K G ds vs) (h : sat X (Rp X.K) G H (mkF c F ds S) Q) (x dx : Addr) (hx : H x = none) (hd : H dx = none) (ne : dx ≠ x) :
    spF X.K F (V.ref x :: vs) (upd (upd H dx (.own x)) x (.ins (gaS X.K c) dx [])) (fun v H2 => v = .non ∧ Q (.ref x) H2) (Est X) := by
  obtain ⟨sm1, st1⟩ := new_ins (c := c) sm hx hd ne
  refine ⟨.loc S.length :: ds, _, _, sm1, .cons (.loc Gh.new_at) (r.mono st1.le), ?_⟩
  unfold mkF at h
  generalize F (.loc S.length :: ds) (S ++ [.ins c []]) = oF at h ⊢
  match oF, h with
  | .ok .non S2, h =>
    intro G2 H2 v st2 sm2 rv
    cases rv
    refine ⟨rfl, ?_⟩
    simp only at h
    split at h
    · rename_i c' fs hl
      split at h
      · rename_i hc
        subst hc
        have hf : G2.f S.length = some x := st2.le.2 _ _ Gh.new_at
        obtain ⟨hF0, dx', ws, ha, rf⟩ := sm2.addr hl (by simp) hf
        have z := sat_gc sm h
        have st3 := (st1.trans st2).trans (Stp.freeze (o := .ins (gaS X.K c') dx' ws) hf hF0)
        exact z _ H2 _ st3 (sm2.freeze hl (by simp) hf ha) (.obj upd_same (rf.mono (Gh.put_le hF0)))
      · exact h.elim
    · exact h.elim
  | .ex y fs S2, h =>
    have z := sat_sp (sat_gc sm h)
    exact fun cls dd H' w => z cls dd H' (w.anti st1)
  | .no, h => exact h.elim
  | .ok (.bl _) _, h => exact h.elim
  | .ok (.int _) _, h => exact h.elim
  | .ok (.str _) _, h => exact h.elim
  | .ok (.tup _) _, h => exact h.elim
  | .ok (.lst _) _, h => exact h.elim
  | .ok (.obj _ _) _, h => exact h.elim
  | .ok (.loc _) _, h => exact h.elim
  | .ok (.cls _) _, h => exact h.elim
  | .ok (.fnc _) _, h => exact h.elim
  | .ok (.ty _) _, h => exact h.elim
  | .ok (.src _) _, h => exact h.elim
  | .ok .dic0 _, h => exact h.elim
  | .ok (.hob _) _, h => exact h.elim
  | .ok (.exc _ _) _, h => exact h.elim
end
section
variable {X : Cx} {c : String} {F : Fn} {j : Nat} {f : Addr} {e e2 : Expr} {es : List Expr} {ms : MA} {m : ME} {p pos sp_ : Pos}
/-- a class whose calls are told by g: C(..) with its __init__ -/
def MkRd (X : Cx) (c : String) (F g : Fn) : Prop := ∀ {G : Gh} {S : Sto} {H : Hp} {ds : List D} {vs : List V} {Q : VK}, Sm X.K G S H → Rps X.K G ds vs → sat X (Rp X.K) G H (g ds S) Q → ∀ (x dx : Addr), H x = none → H dx = none → dx ≠ x →
    spF X.K F (V.ref x :: vs) (upd (upd H dx (.own x)) x (.ins (gaS X.K c) dx [])) (fun v H2 => v = .non ∧ Q (.ref x) H2) (Est X)
theorem mk_frozen : MkRd X c F (mkF c F) := fun sm r h => mk_rd sm r h
theorem qe_mk {g : Fn} (hg : MkRd X c F g) (M : Mk X.K (gaS X.K c) f) (Ff : FnF X.prog X.w X.K X.mg X.base j f F) (hr : Room (j + 1) X.A) (hm : X.mg (Str.ofString c) = some (.ref (gaS X.K c))) (ha : QA X (e :: es) ms) (hgl : Gl X (Str.ofString c) := by rfl) (hdb : (Str.ofString c == ("__debug__" : Str)) = false := by decide)
    (he : starEach (e :: es) X.env = (false, eval e X.env) :: starEach es X.env := by rfl) (hpl : (backTo pos (starEach es X.env)).any (·.1) = false := by rfl) : QE X (.Call (.Name (Str.ofString c) p) (e :: es) [] pos) (cal g ms) :=
  qe_of (StX.pe_makeR M Ff hr hgl hm passE ha hdb he hpl) fun ρ S G σ H Q sm re h => by
    refine ⟨ρ, S, G, sm, re, (sat.bind h).imp fun vs H1 w => ?_⟩
    obtain ⟨ds, S1, G1, le1, sm1, r1, q1⟩ := w
    exact hg sm1 r1 q1
theorem qe_mk0 {g : Fn} (hg : MkRd X c F g) (M : Mk X.K (gaS X.K c) f) (Ff : FnF X.prog X.w X.K X.mg X.base j f F) (hr : Room (j + 1) X.A) (hm : X.mg (Str.ofString c) = some (.ref (gaS X.K c))) (hgl : Gl X (Str.ofString c) := by rfl) (hdb : (Str.ofString c == ("__debug__" : Str)) = false := by decide) :
    QE X (.Call (.Name (Str.ofString c) p) [] [] pos) (cal g aNil) :=
  qe_of (pe_makeR0 M Ff hr hgl hm passE hdb) fun ρ S G σ H Q sm re h => hg sm .nil h
/-- C(*e) -/
def itemsF (g : Fn) (m : ME) : ME := fun ρ S => (m ρ S).bind fun d S1 => match d with
  | .lst xs => g xs S1
  | .tup xs => g xs S1
  | .loc n => match S1[n]? with
    | some (.lst xs) => g xs S1
    | _ => .no
  | _ => .no
end
/-! ### C.m(..) of a class -/
def cmE (c : String) (F : Fn) (o : ME) (ms : MA) : ME := fun ρ S => (o ρ S).bind fun x S1 => if isCl c x = true then (ms ρ S1).bind fun ds S2 => F (x :: ds) S2 else .no
section
variable {X : Cx} {c : String} {F : Fn} {j : Nat} {o e : Expr} {es : List Expr} {mo : ME} {ms : MA} {apos pos : Pos} {m : Str} {p g : Addr} {mc : Value} {pl : Sem Bool}
theorem isCl_rp {K : PySem.W.Frag} {G : Gh} {x : D} {v : V} (h : isCl c x = true) (r : Rp K G x v) : x = .cls c ∧ v = .ref (gaS K c) := by
  cases r <;> simp [isCl] at h
  subst h
  exact ⟨rfl, rfl⟩
/-! ### o.m(..) of an instance -/
def mtO (τ : List (String × Fn)) (n : String) (o : ME) (ms : MA) : ME := fun ρ S => (o ρ S).bind fun x S1 => match insOf S1 x with
  | some (c, fs) => match τ.lookup c with
    | some F => match fs.lookup n with
      | none => (ms ρ S1).bind fun ds S2 => F (x :: ds) S2
      | some _ => .no
    | none => .no
  | none => .no
/-- what is known of a method of some classes -/
def Mths (X : Cx) (j : Nat) (n : String) (τ : List (String × Fn)) : Prop := ∀ c F, τ.lookup c = some F → Cls X.K (gaS X.K c) ∧ ∃ f, Meth X.K (gaS X.K c) (Str.ofString n) f ∧ FnF X.prog X.w X.K X.mg X.base j f F
theorem qe_mt {n : String} {τ : List (String × Fn)} (hτ : Mths X j n τ) (hr : Room j X.A) (ho : QE X o mo) (ha : QA X (e :: es) ms)
    (hst : starEach (e :: es) X.env = (false, eval e X.env) :: starEach es X.env := by rfl) (hpl : (backTo pos (starEach es X.env)).any (·.1) = false := by rfl)
    (ht : eval (.Call (.Attribute o (Str.ofString n) apos) (e :: es) [] pos) X.env = (do
      let ov ← eval o X.env
      standAt apos.atName
      let (f, first) ← holding [ov] (getMethod ov (Str.ofString n) pl)
      callWith pos f first (backTo pos (starEach (e :: es) X.env)) (backToKw pos (keywordEach [] X.env))) := by rfl) :
    QE X (.Call (.Attribute o (Str.ofString n) apos) (e :: es) [] pos) (mtO τ n mo ms) := by
  refine ⟨fun pins s σ H Q I z => ?_⟩
  obtain ⟨ρ, S, G, sm, re, h⟩ := z
  refine PySem.W.methodCall_KW (pl := pl) (thn (ho.run pins s σ H _ I ⟨ρ, S, G, sm, re, sat.bind h⟩) fun u s1 k => ?_) ht
  obtain ⟨v, H1, I1, rv, x, S1, G1, le1, sm1, r1, q1⟩ := k
  split at q1
  · rename_i c fs hi
    split at q1
    · rename_i F hF
      split at q1
      · rename_i hl
        obtain ⟨a, dx, ws, rfl, hA, rf⟩ := sm1.ins hi r1
        obtain ⟨hcl, f, hmt, Ff⟩ := hτ c F hF
        obtain rfl : u = Value.ref a := rv
        refine getmeth_ok I1 hA hcl hmt (rf.gone hl) ?_
        refine PySem.W.callWith_K (first := [.ref a]) (h₀ := X.base) I.ok.mod.kin hmt.kp (thn (ha.run pos pins s1 σ H1 _ I1 ⟨ρ, S1, G1, sm1, re.mono le1.le, sat.bind q1⟩) fun us s2 w => ?_) hst hpl
        obtain ⟨vs, H2, I2, rs, ds, S2, G2, le2, sm2, r2, q2⟩ := w
        refine ⟨I2.kIn, wpAny_call (run_fnR (us := .ref a :: us) (vs := .ref a :: vs) Ff hr passE I2 (.cons rfl rs) ?_)⟩
        exact ⟨x :: ds, S2, G2, sm2, .cons (r1.mono le2.le) r2, sat_sp q2⟩
      · exact q1.elim
    · exact q1.elim
  · exact q1.elim
theorem qe_mt0 {n : String} {τ : List (String × Fn)} (hτ : Mths X j n τ) (hr : Room j X.A) (ho : QE X o mo)
    (ht : eval (.Call (.Attribute o (Str.ofString n) apos) [] [] pos) X.env = (do
      let ov ← eval o X.env
      standAt apos.atName
      let (f, first) ← holding [ov] (getMethod ov (Str.ofString n) pl)
      callWith pos f first (backTo pos (starEach [] X.env)) (backToKw pos (keywordEach [] X.env))) := by rfl) :
    QE X (.Call (.Attribute o (Str.ofString n) apos) [] [] pos) (mtO τ n mo aNil) := by
  refine ⟨fun pins s σ H Q I z => ?_⟩
  obtain ⟨ρ, S, G, sm, re, h⟩ := z
  refine PySem.W.methodCall_KW (pl := pl) (thn (ho.run pins s σ H _ I ⟨ρ, S, G, sm, re, sat.bind h⟩) fun u s1 k => ?_) ht
  obtain ⟨v, H1, I1, rv, x, S1, G1, le1, sm1, r1, q1⟩ := k
  split at q1
  · rename_i c fs hi
    split at q1
    · rename_i F hF
      split at q1
      · rename_i hl
        obtain ⟨a, dx, ws, rfl, hA, rf⟩ := sm1.ins hi r1
        obtain ⟨hcl, f, hmt, Ff⟩ := hτ c F hF
        obtain rfl : u = Value.ref a := rv
        refine getmeth_ok I1 hA hcl hmt (rf.gone hl) ?_
        refine PySem.W.callWith_K0 I1.kIn hmt.kp (wpAny_call (run_fnR (us := [.ref a]) (vs := [.ref a]) Ff hr passE I1 (.cons rfl .nil) ?_))
        exact ⟨[x], S1, G1, sm1, .cons r1 .nil, sat_sp q1⟩
      · exact q1.elim
    · exact q1.elim
  · exact q1.elim
end
end PV
set_option Elab.async false
set_option linter.all false
set_option maxRecDepth 100000
set_option maxHeartbeats 4000000
namespace PV
open PySem PySem.Spec PyProof.Rows L2 ZL
/-! ### starred arguments -/
def aStar (m : ME) (ms : MA) : MA := fun ρ S => (m ρ S).bind fun d S1 => match d with
  | .lst xs => (ms ρ S1).bind fun ds S2 => .ok (xs ++ ds) S2
  | .tup xs => (ms ρ S1).bind fun ds S2 => .ok (xs ++ ds) S2
  | .loc n => match S1[n]? with
    | some (.lst xs) => (ms ρ S1).bind fun ds S2 => .ok (xs ++ ds) S2
    | _ => .no
  | _ => .no
section
variable {X : Cx} {e : Expr} {es : List Expr} {m : ME} {ms : MA} {p pos : Pos}
theorem qa_star (h : QE X e m) (hs : QA X es ms) (hst : starEach (.Starred e p :: es) X.env = (true, eval e X.env) :: starEach es X.env := by rfl) : QA X (.Starred e p :: es) (aStar m ms) :=
  ⟨fun pos pins s σ H Q I z => (StX.pa_star h hs hst).run pos pins s σ H Q I (by
    obtain ⟨ρ, S, G, sm, re, q⟩ := z
    refine ⟨ρ, S, G, sm, re, (sat.bind q).imp fun x H1 w => ?_⟩
    obtain ⟨d, S1, G1, le1, sm1, r1, q1⟩ := w
    cases r1 with
    | lst a b =>
      refine ⟨_, _, rfl, .inr (SqL.of (sm1.fr _ _ a)), ρ, S1, G1, sm1, re.mono le1.le, (sat.bind q1).imp fun xs H2 w => ?_⟩
      obtain ⟨ds, S2, G2, le2, sm2, r2, q2⟩ := w
      exact q2 G2 H2 _ .refl sm2 ((b.mono le2.le).append r2)
    | tup a b =>
      refine ⟨_, _, rfl, .inl (SqT.mono a sm1.fr), ρ, S1, G1, sm1, re.mono le1.le, (sat.bind q1).imp fun xs H2 w => ?_⟩
      obtain ⟨ds, S2, G2, le2, sm2, r2, q2⟩ := w
      exact q2 G2 H2 _ .refl sm2 ((b.mono le2.le).append r2)
    | loc hf =>
      rename_i n a
      have q1 : sat X (Rps X.K) G1 H1 (match S1[n]? with | some (.lst xs) => (ms ρ S1).bind fun ds S2 => .ok (xs ++ ds) S2 | _ => .no) Q := q1
      match hn : S1[n]?, q1 with
      | some (.lst xs), q1 =>
        obtain ⟨_, vs, h1, b⟩ := sm1.addr hn (by simp) hf
        refine ⟨_, _, rfl, .inr (SqL.of h1), ρ, S1, G1, sm1, re.mono le1.le, (sat.bind q1).imp fun xs H2 w => ?_⟩
        obtain ⟨ds, S2, G2, le2, sm2, r2, q2⟩ := w
        exact q2 G2 H2 _ .refl sm2 ((b.mono le2.le).append r2)
      | some (.ins _ _), q1 => exact q1.elim
      | some .dead, q1 => exact q1.elim
      | none, q1 => exact q1.elim
    | _ => exact q1.elim)⟩
/-! ### x[::-1] -/
/-! ### {} -/
end
/-! ### own operators -/
/-- the kind of a value as the machine sees it -/
theorem looksTy {X : Cx} {pins : List (Addr × Obj)} {σ : L2.St} {H : Hp} {s : Shared} {G : Gh} {S : Sto} {d : D} {v : V} {u : Value} {t : Ty} (I : Inv X pins σ H s) (sm : Sm X.K G S H) (r : Rp X.K G d v) (rv : RelV v u) (e : tyD S d = some t) :
    PySem.W.Looks (model X.prog X.w) s.heap (typeOf u) (tyV' X.K t) := by
  have ofObj : ∀ {a : Addr} {o : Obj}, s.heap.get? a = some o → o.cls = tyV' X.K t → PySem.W.Looks (model X.prog X.w) s.heap (typeOf (.ref a)) (tyV' X.K t) := fun {a o} h c A Q E s' k q => wpAny_typeOf_ref (k _ _ h) (by rw [c]; exact q)
  have ofL : ∀ {a : Addr} {xs : List V}, H a = some (.lst xs) → t = .b "list" → PySem.W.Looks (model X.prog X.w) s.heap (typeOf (.ref a)) (tyV' X.K t) := fun {a xs} h c => by
    obtain ⟨_, its, n, _, h1⟩ := (show ObjOk X.prog X.w H s.heap a (.lst xs) from I.hok a _ h)
    exact ofObj h1 (by rw [c]; rfl)
  have ofI : ∀ {a dx : Addr} {c : String} {ws : List (Str × V)}, H a = some (.ins (gaS X.K c) dx ws) → t = .c c → PySem.W.Looks (model X.prog X.w) s.heap (typeOf (.ref a)) (tyV' X.K t) := fun {a dx c ws} h ec => by
    obtain ⟨od, J⟩ := inst_at I h
    rw [ec]
    exact J.type
  cases r with
  | non => cases rv; cases e; exact PySem.W.Looks.of_pure rfl
  | bl b => cases rv; cases e; exact PySem.W.Looks.of_pure rfl
  | int i => obtain ⟨t', rfl⟩ := rv; cases e; exact PySem.W.Looks.of_pure rfl
  | str x => obtain ⟨t', rfl⟩ := rv; cases e; exact PySem.W.Looks.of_pure rfl
  | tup h r =>
    cases rv
    cases e
    obtain ⟨its, _, ⟨o, h1, h2, _⟩, _⟩ := I.tuple (SqT.mono h sm.fr)
    exact ofObj h1 h2
  | lst h r => cases rv; cases e; exact ofL (sm.fr _ _ h) rfl
  | obj h r => cases rv; cases e; exact ofI (sm.fr _ _ h) rfl
  | @loc n a h =>
    cases rv
    unfold tyD at e
    simp only at e
    split at e
    · rename_i xs q
      cases e
      obtain ⟨_, vs, h1, _⟩ := sm.addr q (by simp) h
      exact ofL h1 rfl
    · rename_i c fs q
      cases e
      obtain ⟨_, dx, ws, h1, _⟩ := sm.addr q (by simp) h
      exact ofI h1 rfl
    · cases e
  | dic0 h =>
    cases rv
    cases e
    obtain ⟨_, _, vs, _, o, es, ep, h1, h2, _⟩ := (show ObjOk X.prog X.w H s.heap _ (.dK []) from I.hok _ _ (sm.fr _ _ h))
    exact ofObj h1 h2.1
  | @hob o a h =>
    cases rv
    cases o with
    | dK kvs =>
      cases e
      obtain ⟨_, _, vs, _, o, es, ep, h1, h2, _⟩ := (show ObjOk X.prog X.w H s.heap _ (.dK kvs) from I.hok _ _ (sm.fr _ _ h))
      exact ofObj h1 h2.1
    | _ => cases e
  | _ => cases e
/-- y may stand behind an instance -/
def okTy (cs : List String) : Ty → Bool
  | .b _ => true
  | .c n => cs.contains n
def onlyB (o : Out D) : Out D := o.bind fun d S => match d with
  | .bl b => .ok (.bl b) S
  | _ => .no
theorem spO_onlyB {K : PySem.W.Frag} {X : Cx} {G : Gh} {H : Hp} {o : Out D} {Q : VK} (h : sat X (Rp X.K) G H (onlyB o) Q) : spO X.K G H o (fun v H' => (∃ b, v = .bl b) ∧ Q v H') (Est X) := by
  match o, h with
  | .ok (.bl b) S, h => exact fun G' H' v st sm r => by cases r; exact ⟨⟨b, rfl⟩, h G' H' _ st sm (.bl b)⟩
  | .ok .non _, h => exact h.elim
  | .ok (.int _) _, h => exact h.elim
  | .ok (.str _) _, h => exact h.elim
  | .ok (.tup _) _, h => exact h.elim
  | .ok (.lst _) _, h => exact h.elim
  | .ok (.obj _ _) _, h => exact h.elim
  | .ok (.loc _) _, h => exact h.elim
  | .ok (.cls _) _, h => exact h.elim
  | .ok (.fnc _) _, h => exact h.elim
  | .ok (.ty _) _, h => exact h.elim
  | .ok (.src _) _, h => exact h.elim
  | .ok .dic0 _, h => exact h.elim
  | .ok (.hob _) _, h => exact h.elim
  | .ok (.exc _ _) _, h => exact h.elim
  | .ex c fs S', h => exact fun cls dd H' w => ⟨G, H, c, fs, S', h, w⟩
  | .no, h => exact h.elim
/-- what is known of an own comparison of some classes -/
def Cmps (X : Cx) (j : Nat) (n : Str) (τ : List (String × Fn)) (cs : List String) : Prop := ∀ c F, τ.lookup c = some F → (∀ t, (∀ m, t = .b m → m ∈ six) → okTy cs t = true → PySem.W.notFirst X.K (gaS X.K c) (tyV' X.K t) = true) ∧ ∃ f, Own X.K (gaS X.K c) n f ∧ FnF X.prog X.w X.K X.mg X.base j f F
/-- x != y by an own == alone -/
def notB (o : Out D) : Out D := o.bind fun d S => match d with
  | .bl b => .ok (.bl (!b)) S
  | _ => .no
def neO (τ : List (String × Fn)) (cs : List String) (g : G2) : G2 := fun x y S => match insOf S x with
  | some (c, _) => match τ.lookup c with
    | some F => match tyD S y with
      | some t => if okTy cs t = true then notB (F [x, y] S) else .no
      | none => .no
    | none => .no
  | none => g x y S
theorem spO_notB {X : Cx} {G : Gh} {H : Hp} {o : Out D} {Q : VK} (h : sat X (Rp X.K) G H (notB o) Q) : spO X.K G H o (fun v H' => ∃ r, v = .bl r ∧ Q (.bl (!r)) H') (Est X) := by
  match o, h with
  | .ok (.bl b) S, h => exact fun G' H' v st sm r => by cases r; exact ⟨b, rfl, h G' H' _ st sm (.bl _)⟩
  | .ok .non _, h => exact h.elim
  | .ok (.int _) _, h => exact h.elim
  | .ok (.str _) _, h => exact h.elim
  | .ok (.tup _) _, h => exact h.elim
  | .ok (.lst _) _, h => exact h.elim
  | .ok (.obj _ _) _, h => exact h.elim
  | .ok (.loc _) _, h => exact h.elim
  | .ok (.cls _) _, h => exact h.elim
  | .ok (.fnc _) _, h => exact h.elim
  | .ok (.ty _) _, h => exact h.elim
  | .ok (.src _) _, h => exact h.elim
  | .ok .dic0 _, h => exact h.elim
  | .ok (.hob _) _, h => exact h.elim
  | .ok (.exc _ _) _, h => exact h.elim
  | .ex c fs S', h => exact fun cls dd H' w => ⟨G, H, c, fs, S', h, w⟩
  | .no, h => exact h.elim
theorem of_neO {X : Cx} {j : Nat} {τ : List (String × Fn)} {cs : List String} {g : G2} (hne : ∀ c F, τ.lookup c = some F → OwnNe X.K (gaS X.K c)) (hτ : Cmps X j "__eq__" τ cs) (hr : Room (j + 1) X.A) (hg : OpF X (compareOp .NotEq) g) : OpF X (compareOp .NotEq) (neO τ cs g) := fun pins s σ H v w u u' Q I rv rw' ⟨x, y, S, G, sm, rx, ry, h⟩ => by
  unfold neO at h
  split at h
  · rename_i c fs hi
    split at h
    · rename_i F hF
      split at h
      · rename_i t ht
        split at h
        · rename_i ho
          obtain ⟨a, dx, ws, rfl, hA, rf⟩ := sm.ins hi rx
          obtain ⟨hn, f, hown, Ff⟩ := hτ c F hF
          obtain rfl : u = Value.ref a := rv
          obtain ⟨od, J⟩ := inst_at I hA
          show wpAny (model X.prog X.w) X.A (richCompare .NotEq (.ref a) u') (EP X pins σ Q) X.xe s
          refine ne_rc (hne c F hF) hown (by have := hr.un; omega) I.kIn J (looksTy I sm ry rw' ht) (hn t (fun m e => by subst e; exact tyD_six ht) ho) (thn (run_at (A := X.A.in1) (vs := [.ref a, w]) Ff hr.in1 rfl passE I (.cons rfl (.cons rw' .nil)) ⟨[x, y], S, G, sm, .cons rx (.cons ry .nil), spO_notB h⟩) fun u s' z => ?_)
          obtain ⟨v, H', I', r, b', rfl, q'⟩ := z
          cases r
          exact ⟨b', rfl, .bl (!b'), H', I', rfl, q'⟩
        · exact h.elim
      · exact h.elim
    · exact h.elim
  · exact hg pins s σ H v w u u' Q I rv rw' ⟨x, y, S, G, sm, rx, ry, h⟩
/-! ### len, str, in by own methods -/
def Owns (X : Cx) (j : Nat) (n : Str) (τ : List (String × Fn)) : Prop := ∀ c F, τ.lookup c = some F → ∃ f, Own X.K (gaS X.K c) n f ∧ FnF X.prog X.w X.K X.mg X.base j f F
/-- y in x, x an instance -/
def inO (τ : List (String × Fn)) (g : G2) : G2 := fun y x S => match insOf S x with
  | some (c, _) => match τ.lookup c with
    | some F => onlyB (F [x, y] S)
    | none => .no
  | none => g y x S
theorem of_inO {X : Cx} {j : Nat} {τ : List (String × Fn)} {g : G2} (hτ : Owns X j "__contains__" τ) (hr : Room j X.A) (hg : OpF X (compareOp .In) g) : OpF X (compareOp .In) (inO τ g) := fun pins s σ H v w u u' Q I rv rw' ⟨y, x, S, G, sm, ry, rx, h⟩ => by
  unfold inO at h
  split at h
  · rename_i c fs hi
    split at h
    · rename_i F hF
      obtain ⟨a, dx, ws, rfl, hA, rf⟩ := sm.ins hi rx
      obtain ⟨f, hown, Ff⟩ := hτ c F hF
      refine op_inO hown Ff hr passE pins s σ H v _ u u' Q I rv rw' ⟨a, dx, ws, rfl, hA, [x, y], S, G, sm, .cons rx (.cons ry .nil), (spO_onlyB (K := X.K) h).imp fun v' H' z => ?_⟩
      obtain ⟨⟨b, rfl⟩, q⟩ := z
      exact ⟨b, rfl, by rw [Bool.false_xor]; exact q⟩
    · exact h.elim
  · exact hg pins s σ H v w u u' Q I rv rw' ⟨y, x, S, G, sm, ry, rx, h⟩
/-! ### - x, x[i] by own methods -/
/-! ### x + y .. by own methods -/
/-- what may come back: an object, an int -/
def okRes (o : Out D) : Out D := o.bind fun d S => match d with
  | .obj c fs => .ok (.obj c fs) S
  | .tup xs => .ok (.tup xs) S
  | .lst xs => .ok (.lst xs) S
  | .loc n => .ok (.loc n) S
  | _ => .no
theorem spO_okRes {X : Cx} {G : Gh} {H : Hp} {o : Out D} {Q : VK} (h : sat X (Rp X.K) G H (okRes o) Q) : spO X.K G H o (fun v H' => (∃ r, v = .ref r) ∧ Q v H') (Est X) := by
  match o, h with
  | .ok (.obj c fs) S, h => exact fun G' H' v st sm r => by cases r with | obj a b => exact ⟨⟨_, rfl⟩, h G' H' _ st sm (.obj a b)⟩
  | .ok (.tup xs) S, h => exact fun G' H' v st sm r => by cases r with | tup a b => exact ⟨⟨_, rfl⟩, h G' H' _ st sm (.tup a b)⟩
  | .ok (.lst xs) S, h => exact fun G' H' v st sm r => by cases r with | lst a b => exact ⟨⟨_, rfl⟩, h G' H' _ st sm (.lst a b)⟩
  | .ok (.loc n) S, h => exact fun G' H' v st sm r => by cases r with | loc a => exact ⟨⟨_, rfl⟩, h G' H' _ st sm (.loc a)⟩
  | .ok .non _, h => exact h.elim
  | .ok (.bl _) _, h => exact h.elim
  | .ok (.int _) _, h => exact h.elim
  | .ok (.str _) _, h => exact h.elim
  | .ok (.cls _) _, h => exact h.elim
  | .ok (.fnc _) _, h => exact h.elim
  | .ok (.ty _) _, h => exact h.elim
  | .ok (.src _) _, h => exact h.elim
  | .ok .dic0 _, h => exact h.elim
  | .ok (.hob _) _, h => exact h.elim
  | .ok (.exc _ _) _, h => exact h.elim
  | .ex c fs S', h => exact fun cls dd H' w => ⟨G, H, c, fs, S', h, w⟩
  | .no, h => exact h.elim
/-- x op y: x an instance of the class c, y another one or an int -/
def binO (c : String) (F : Fn) (g : G2) : G2 := fun x y S => match insOf S x with
  | some (c1, _) => if c1 = c then match insOf S y with
      | some (c2, _) => if c2 = c then okRes (F [x, y] S) else .no
      | none => match y with
        | .int _ => okRes (F [x, y] S)
        | _ => .no
    else .no
  | none => g x y S
/-- what is known of an own operator -/
structure Bins (X : Cx) (j : Nat) (op : Operator) (c : String) (F : Fn) : Prop where
  sf : PySem.W.selfFirst X.K (gaS X.K c) = true
  fn : ∃ f, Own X.K (gaS X.K c) (PySem.dunder op.info.2) f ∧ FnF X.prog X.w X.K X.mg X.base j f F
  rc : ∃ rc, PySem.W.findIn X.K (.ref (gaS X.K c)) (dunderR op.info.2) = some rc ∧ (rc = none ∨ ∃ g : Addr, rc = some (.ref g))
  i1 : ∃ fo, PySem.W.findIn X.K (.type "int") (PySem.dunder op.info.2) = some fo
  i2 : ∃ ro, PySem.W.findIn X.K (.type "int") (dunderR op.info.2) = some ro
  ns : PySem.W.subIn X.K (.type "int") (.ref (gaS X.K c)) = some false
theorem of_binO {X : Cx} {j : Nat} {op : Operator} {c : String} {F : Fn} {g : G2} (B : Bins X j op c F) (hr : Room j X.A) (hg : OpF X (binaryOp op) g) : OpF X (binaryOp op) (binO c F g) := fun pins s σ H v w u u' Q I rv rw' ⟨x, y, S, G, sm, rx, ry, h⟩ => by
  unfold binO at h
  split at h
  · rename_i c1 fs hi
    split at h
    · rename_i hc
      subst hc
      obtain ⟨a, dx, ws, rfl, hA, rf⟩ := sm.ins hi rx
      obtain ⟨f, hown, Ff⟩ := B.fn
      split at h
      · rename_i c2 gs hi2
        split at h
        · rename_i hc2
          subst hc2
          obtain ⟨b, dy, zs, rfl, hB, rg⟩ := sm.ins hi2 ry
          exact op_binO B.sf hown Ff hr passE pins s σ H _ _ u u' Q I rv rw' ⟨a, b, dx, dy, ws, zs, rfl, rfl, hA, hB, [x, y], S, G, sm, .cons rx (.cons ry .nil), spO_okRes h⟩
        · exact h.elim
      · split at h
        · rename_i i
          cases ry
          obtain ⟨rc, hR, hp⟩ := B.rc
          obtain ⟨fo, h1⟩ := B.i1
          obtain ⟨ro, h2⟩ := B.i2
          exact op_binI B.sf hown hR hp h1 h2 B.ns Ff hr passE pins s σ H _ _ u u' Q I rv rw' ⟨a, _, dx, ws, rfl, rfl, hA, [x, .int _], S, G, sm, .cons rx (.cons (.int _) .nil), spO_okRes h⟩
        · exact h.elim
    · exact h.elim
  · exact hg pins s σ H v w u u' Q I rv rw' ⟨x, y, S, G, sm, rx, ry, h⟩
/-! ### repr -/
def reprOk (p : PyData) : Bool := p.showable && !p.hasDict && decide (p.depth ≤ 60) && decide (p.shown.length ≤ sizeLine)
def reprB : Fn := fun ds S => match ds with
  | [.lst xs] => match toP (.lst xs) with
    | some p => if reprOk p = true then .ok (.str p.shown) S else .no
    | none => .no
  | [.tup xs] => match toP (.tup xs) with
    | some p => if reprOk p = true then .ok (.str p.shown) S else .no
    | none => .no
  | [.loc n] => match S[n]? with
    | some (.lst xs) => match toP (.lst xs) with
      | some p => if reprOk p = true then .ok (.str p.shown) S else .no
      | none => .no
    | _ => .no
  | _ => .no
theorem cf_repr {X : Cx} (hg : X.A.guards = some []) (hu : X.A.units + 64 < cLine) : CallF X (.builtin "repr") reprB := fun pins s σ H vs us Q I rv ⟨ds, S, G, sm, r, h⟩ => by
  have go : ∀ {a : Addr} {p : PyData}, Dp X.K H (.ref a) p → sat X (Rp X.K) G H (if reprOk p = true then .ok (.str p.shown) S else .no) Q → vs = [.ref a] → wpAny (model X.prog X.w) X.A (call (.builtin "repr") us) (EP X pins σ Q) X.xe s := fun {a p} dp h ev => by
    subst ev
    by_cases c : reprOk p = true
    · rw [if_pos c] at h
      unfold reprOk at c
      simp only [Bool.and_eq_true, decide_eq_true_eq, Bool.not_eq_true'] at c
      exact call_reprD hg hu pins s σ H _ us Q I rv ⟨a, p, rfl, dp, c.1.1.1, c.1.1.2, c.1.2, c.2, h G H _ .refl sm (.str _)⟩
    · rw [if_neg c] at h
      exact h.elim
  unfold reprB at h
  split at h
  · split at h
    · rename_i p hp
      obtain ⟨v, rfl, q⟩ := vals1 r
      have dp := Rp.dp sm.fr _ _ _ q hp
      cases q with
      | lst a b => exact go dp h rfl
    · exact h.elim
  · split at h
    · rename_i p hp
      obtain ⟨v, rfl, q⟩ := vals1 r
      have dp := Rp.dp sm.fr _ _ _ q hp
      cases q with
      | tup a b => exact go dp h rfl
    · exact h.elim
  · split at h
    · rename_i xs hl
      split at h
      · rename_i p hp
        obtain ⟨v, rfl, q⟩ := vals1 r
        obtain ⟨a, ws, rfl, hf, ha, rr⟩ := sm.list hl q
        unfold toP at hp
        match hq : toPs xs, hp with
        | some ps, hp => cases hp; exact go (.lst (SqL.of ha) (Rps.dp sm.fr xs _ ps rr hq)) h rfl
        | none, hp => cases hp
      · exact h.elim
    · exact h.elim
  · exact h.elim
/-! ### isinstance(x, (A, B)) of built-in classes -/
def isiA (Ts : List String) (cs : List String) (m : ME) : ME := fun ρ S => (m ρ S).bind fun x S1 => match tyD S1 x with
  | some (.b n) => .ok (.bl (Ts.any fun T => subT n T)) S1
  | some (.c n) => if cs.contains n = true then .ok (.bl false) S1 else .no
  | none => .no
section
variable {X : Cx} {e : Expr} {m : ME} {p p1 p2 p3 pos : Pos} {x1}
end
end PV
set_option Elab.async false
set_option linter.all false
set_option maxRecDepth 100000
set_option maxHeartbeats 4000000
namespace ZL
open PySem PySem.Spec PyProof.Rows L2
end ZL
set_option Elab.async false
set_option linter.all false
set_option maxRecDepth 100000
set_option maxHeartbeats 4000000
namespace PV
open PySem PySem.Spec PyProof.Rows L2 ZL
/-! ### a op b op c op d -/
section
variable {X : Cx} {a b c d : Expr} {ma mb mc md : ME} {g g' g'' : G2} {pos : Pos}
end
/-! ### o[i] of an instance or of anything else -/
/-! ### a constant of a class -/
/-! ### cls(), cls a local name that holds the class -/
/-! ### tuple * int -/
section
variable {X : Cx} {pins : List (Addr × Obj)} {σ : L2.St} {H : Hp} {s : Shared}
end
/-! ### int * x of an own class; x op= y -/
def noG2 : G2 := fun _ _ _ => .no
theorem of_no {X : Cx} {f : Value → Value → Sem Value} : OpF X f noG2 := fun _ _ _ _ _ _ _ _ _ _ _ _ ⟨_, _, _, _, _, _, _, h⟩ => h.elim
/-! ### repr of an int -/
def reprI (g : Fn) : Fn := fun ds S => match ds with
  | [.int i] => if i.natAbs.log2 < 1920 then .ok (.str (strOf i)) S else .no
  | ds => g ds S
theorem cf_reprI {X : Cx} {g : Fn} (hg : CallF X (.builtin "repr") g) : CallF X (.builtin "repr") (reprI g) := fun pins s σ H vs us Q I rv ⟨ds, S, G, sm, r, h⟩ => by
  unfold reprI at h
  split at h
  · split at h
    · rename_i c
      obtain ⟨v, rfl, q⟩ := vals1 r
      cases q
      exact SkE.call_repr_int pins s σ H _ us Q I rv ⟨_, rfl, c, h G H _ .refl sm (.str _)⟩
    · exact h.elim
  · exact hg pins s σ H vs us Q I rv ⟨_, S, G, sm, r, h⟩
theorem cval_of {K : PySem.W.Frag} {C : Addr} {f : Str} {i : Int} (h : (match PySem.W.findCls K (.ref C) (.type "type") f with | some (.val (.int j _)) => decide (j = i) | _ => false) = true) : ∃ u, ClX.CVal K C (.type "type") f (.int i) u := by
  split at h
  · rename_i j t e
    have := of_decide_eq_true h
    subst this
    exact ⟨_, e, ⟨_, rfl⟩⟩
  · cases h
theorem memLk {β : Type} {c : String} {b : β} : ∀ {l : List (String × β)}, l.lookup c = some b → (c, b) ∈ l
  | [], h => by cases h
  | (k, v) :: l, h => by
    by_cases e : c = k
    · subst e
      simp at h
      subst h
      exact List.mem_cons_self
    · have e' : (c == k) = false := by simpa using e
      rw [List.lookup_cons, e'] at h
      exact List.mem_cons_of_mem _ (memLk h)
theorem u65 {j : Nat} {A : Around} (r : Room j A) : A.units + 65 < cLine := by have := r.un; omega
end PV
set_option Elab.async false
set_option linter.all false
set_option maxRecDepth 100000
set_option maxHeartbeats 4000000
/-! while -/
namespace PV
open PySem PySem.Spec PyProof.Rows L2 ZL
def whL (t : MT) (b : MS) : Nat → Ev → Sto → Out Fl
  | 0, _, _ => .no
  | n + 1, ρ, S => (t ρ S).bind fun c S1 => if c = true then (b ρ S1).bind fun f S2 => match f with
      | .nx ρ' => whL t b n ρ' S2
      | .ct ρ' => whL t b n ρ' S2
      | .bk ρ' => .ok (.nx ρ') S2
      | .rt d => .ok (.rt d) S2
    else .ok (.nx ρ) S1
theorem whL_up {t : MT} {b : MS} : ∀ {n m : Nat} {ρ : Ev} {S : Sto}, n ≤ m → whL t b n ρ S ≠ .no → whL t b m ρ S = whL t b n ρ S
  | 0, _, _, _, _, h => absurd rfl h
  | n + 1, 0, _, _, h, _ => absurd h (by omega)
  | n + 1, m + 1, ρ, S, hm, h => by
    unfold whL at h ⊢
    match et : t ρ S, h with
    | .ok false S1, _ => rfl
    | .ex _ _ _, _ => rfl
    | .no, _ => rfl
    | .ok true S1, h =>
      have h : (b ρ S1).bind (fun f S2 => match f with
        | .nx ρ' => whL t b n ρ' S2
        | .ct ρ' => whL t b n ρ' S2
        | .bk ρ' => .ok (.nx ρ') S2
        | .rt d => .ok (.rt d) S2) ≠ .no := h
      show (b ρ S1).bind (fun f S2 => match f with
        | .nx ρ' => whL t b m ρ' S2
        | .ct ρ' => whL t b m ρ' S2
        | .bk ρ' => .ok (.nx ρ') S2
        | .rt d => .ok (.rt d) S2) = (b ρ S1).bind (fun f S2 => match f with
        | .nx ρ' => whL t b n ρ' S2
        | .ct ρ' => whL t b n ρ' S2
        | .bk ρ' => .ok (.nx ρ') S2
        | .rt d => .ok (.rt d) S2)
      match eb : b ρ S1, h with
      | .ok (.nx ρ') S2, h => exact whL_up (by omega) h
      | .ok (.ct ρ') S2, h => exact whL_up (by omega) h
      | .ok (.bk ρ') S2, _ => rfl
      | .ok (.rt d) S2, _ => rfl
      | .ex _ _ _, _ => rfl
      | .no, _ => rfl
open Classical in
noncomputable def sWhl (t : MT) (b : MS) : MS := fun ρ S => if h : ∃ n, whL t b n ρ S ≠ .no then whL t b h.choose ρ S else .no
theorem whl_ok {t : MT} {b : MS} {n : Nat} {ρ : Ev} {S : Sto} {o : Out Fl} (h : whL t b n ρ S = o) (ho : o ≠ .no) : sWhl t b ρ S = o := by
  have hx : ∃ n, whL t b n ρ S ≠ .no := ⟨n, by rw [h]; exact ho⟩
  unfold sWhl
  rw [dif_pos hx]
  have h1 := hx.choose_spec
  rcases Nat.le_total n hx.choose with c | c
  · rw [whL_up c (by rw [h]; exact ho), h]
  · rw [← whL_up c h1, h]
theorem qs_whl {X : Cx} {c : Expr} {body : List Stmt} {mt : MT} {mb : MS} {pos : Pos} (hp : PassesOwn (model X.prog X.w) X.A X.env X.xe) (hc : QT X c mt) (hb : QSs X body mb) : QS X (.While c body [] pos) (sWhl mt mb) := qs_of (ps_while hp hc hb) fun ρ0 S0 G0 σ0 H0 D sm0 re0 h => by
  classical
  unfold sWhl at h
  split at h
  · rename_i hx
    refine ⟨fun m σ H => ∃ ρ S G, Sm X.K G S H ∧ Re X.K G ρ σ ∧ satS X G H (whL mt mb m ρ S) D, ⟨hx.choose, ρ0, S0, G0, sm0, re0, h⟩, ?_⟩
    rintro m σ H ⟨ρ, S, G, sm, re, q⟩
    match m, q with
    | 0, q => exact q.elim
    | m + 1, q =>
      unfold whL at q
      refine ⟨ρ, S, G, sm, re, (satS.bind (R := fun _ a b => a = b) q).imp fun b H1 w => ?_⟩
      obtain ⟨b', S1, G1, le1, sm1, rfl, q1⟩ := w
      cases b' with
      | false => exact q1 G1 H1 σ .refl sm1 (re.mono le1.le)
      | true =>
        refine ⟨fun σ' H' => ∃ ρ S G, Sm X.K G S H' ∧ Re X.K G ρ σ' ∧ satS X G H' (whL mt mb m ρ S) D, fun σ' H' z => ⟨m, by omega, z⟩, ρ, S1, G1, sm1, re.mono le1.le, ?_⟩
        have q2 : satS X G1 H1 ((mb ρ S1).bind fun f S2 => match f with
          | .nx ρ' => whL mt mb m ρ' S2
          | .ct ρ' => whL mt mb m ρ' S2
          | .bk ρ' => .ok (.nx ρ') S2
          | .rt d => .ok (.rt d) S2) D := q1
        match mb ρ S1, q2 with
        | .ok (.nx ρ') S', q2 => exact fun G3 H3 σ3 st3 sm3 re3 => ⟨ρ', S', G3, sm3, re3, q2.mono st3⟩
        | .ok (.ct ρ') S', q2 => exact fun G3 H3 σ3 st3 sm3 re3 => ⟨ρ', S', G3, sm3, re3, q2.mono st3⟩
        | .ok (.bk ρ') S', q2 => exact q2
        | .ok (.rt d) S', q2 => exact q2
        | .ex _ _ _, q2 => exact q2
        | .no, q2 => exact q2
  · exact h.elim
end PV
set_option Elab.async false
set_option linter.all false
set_option maxRecDepth 100000
set_option maxHeartbeats 1000000
/-! zip of a tuple and a list, either way round -/
namespace ZL
open PySem PySem.Spec PyProof.Rows L2 RZ
/-- the items of a tuple (true) or of a list -/
def AtSq : Bool → Heap → Addr → Array Value → Prop
  | true, g, a, m => g.IsTuple a m
  | false, g, a, m => g.IsList a m
def AtIt : Bool → Heap → Addr → Addr → Nat → Prop
  | true, g, c, a, k => g.IsTupleIter c a k
  | false, g, c, a, k => g.IsListIter c a k
theorem AtIt.has {t : Bool} {g : Heap} {c a : Addr} {k : Nat} (h : AtIt t g c a k) : ∃ o, g.get? c = some o ∧ ∀ v, o.data ≠ .cell v := by
  cases t with
  | true =>
    obtain ⟨o, e, _, d⟩ := h
    exact ⟨o, e, fun v z => by rw [d] at z; cases z⟩
  | false =>
    obtain ⟨o, e, _, d⟩ := h
    exact ⟨o, e, fun v z => by rw [d] at z; cases z⟩
theorem AtSq.has {t : Bool} {g : Heap} {a : Addr} {m : Array Value} (h : AtSq t g a m) : ∃ o, g.get? a = some o := by
  cases t with
  | true => exact let ⟨o, e, _⟩ := id h; ⟨o, e⟩
  | false => exact let ⟨o, e, _⟩ := id h; ⟨o, e⟩
/-- the abstract sequence -/
def SqA (K : PySem.W.Frag) : Bool → Hp → Addr → List V → Prop
  | true, H, a, xs => SqT K H a xs
  | false, H, a, xs => SqL K H a xs
theorem SqA.at {X : Cx} {pins : List (Addr × Obj)} {σ : L2.St} {H : Hp} {s : Shared} {t : Bool} {a : Addr} {xs : List V} (I : Inv X pins σ H s) (h : SqA X.K t H a xs) : ∃ its : List Value, Vals xs its ∧ AtSq t s.heap a its.toArray := by
  cases t with
  | true =>
    obtain ⟨its, rv, p, _⟩ := I.tuple (show SqT X.K H a xs from h)
    exact ⟨its, rv, p⟩
  | false =>
    obtain ⟨its, rv, p, _⟩ := I.list (show SqL X.K H a xs from h)
    exact ⟨its, rv, p.isList⟩
theorem SqA.one {X : Cx} {pins : List (Addr × Obj)} {σ : L2.St} {H : Hp} {s : Shared} {t : Bool} {a : Addr} {xs ys : List V} (I : Inv X pins σ H s) (h : SqA X.K t H a xs) (h' : SqA X.K t H a ys) : xs = ys := by
  cases t with
  | true => exact I.tuple_inj h h'
  | false => exact I.list_inj h h'
end ZL
set_option Elab.async false
set_option linter.all false
set_option maxRecDepth 100000
set_option maxHeartbeats 4000000
/-! zip of two lists, of two tuples -/
namespace PV
open PySem PySem.Spec PyProof.Rows L2 ZL RZ
def zipD (xs ys : List D) : List D := (xs.zip ys).map fun p => .tup [p.1, p.2]
theorem SqA.up {K : PySem.W.Frag} {G G' : Gh} {S : Sto} {H : Hp} {t : Bool} {a : Addr} {vs : List V} (h : SqA K t G.F a vs) (le : G.le G') (sm : Sm K G' S H) : SqA K t H a vs := by
  cases t with
  | true => exact SqT.mono (SqT.mono h le.1) sm.fr
  | false => exact SqL.mono (SqL.mono h le.1) sm.fr
section
variable {K : PySem.W.Frag} {G : Gh}
end
def zpD (ds : List D) (S1 : Sto) : Out (List D × Option Nat) := match ds with
  | [.lst xs, .lst ys] => .ok (zipD xs ys, none) S1
  | [.tup xs, .tup ys] => .ok (zipD xs ys, none) S1
  | [.tup xs, .lst ys] => .ok (zipD xs ys, none) S1
  | [.lst xs, .tup ys] => .ok (zipD xs ys, none) S1
  | _ => .no
def iZp (m : MA) : MI := fun ρ S => (m ρ S).bind zpD
end PV
set_option Elab.async false
set_option linter.all false
set_option maxRecDepth 100000
set_option maxHeartbeats 4000000
/-! defs with defaults -/
namespace PV
open PySem PySem.Spec PyProof.Rows L2 ZL
/-- dds: the defaults of the last parameters -/
noncomputable def dfnD (np n : Nat) (b : MS) (dds : List D) : Fn := fun ds S => dfn np n b (ds ++ dds.drop (dds.length - (np - ds.length))) S
theorem runD {np n : Nat} {b : MS} {dds ds : List D} {S : Sto} {o : Out D} (h : dfn np n b (ds ++ dds.drop (dds.length - (np - ds.length))) S = o) : dfnD np n b dds ds S = o := h
section
variable {P : Program} {w : World} {K : PySem.W.Frag} {mg : Str → Option Value} {base : Heap} {x qual : Str} {st : Stmt} {kws : List (Str × V)} {f : Addr} {fd : FuncData} {N ps : List Str} {j : Nat} {b : MS} {dvs : List V} {dds : List D}
theorem okFD {np n : Nat} (F : FunD K x qual (defArgs st) (defBody st) (defScope st) dvs kws f fd) (S : FnScope N ps (defScope st)) (hn : ps.length = np) (hN : N.length = n) (hd : dds.length = dvs.length) (rd : ∀ G, Rps K G dds dvs)
    (hb : ∀ i, i ≤ dvs.length → ∃ ds, Vals (dvs.drop i) ds ∧ Binds K fd ps ds)
    (hbody : ∀ (cdv : Value) (A : Around) (outer : List Env) (s : Shared) (H : Hp) (E : XK), Room j (A.deeper (envOfC qual (defScope st) s.heap.objs.size f cdv)) →
      QSs (cxOf (L2.CX P w) P w K mg base N qual (defScope st) f cdv A outer s H E) (defBody st) b) : FnF P w K mg base (j + 1) f (dfnD np n b dds) := by
  have Fk : FnOk P w K mg base (L2.CX P w) (j + 1) f fd ps (spF K (dfn np n b)) := F.ok S (spF_len hn) fun cdv A outer s H vs Q E hr h =>
    ⟨_, hbody cdv A outer s H E hr, body_start rfl (takes_of rfl rfl rfl rfl) hn hN h⟩
  intro A outer s H us vs Q E hr e0 r h
  obtain ⟨ds, S, G, sm, rr, h⟩ := h
  obtain ⟨dz, rz, hbnd⟩ := hb (dds.length - (np - ds.length)) (by omega)
  have rr2 : Rps K G (ds ++ dds.drop (dds.length - (np - ds.length))) (vs ++ dvs.drop (dds.length - (np - ds.length))) := rr.append ((rd G).drop _)
  have sp2 : spF K (dfn np n b) (vs ++ dvs.drop (dds.length - (np - ds.length))) H Q E := ⟨_, S, G, sm, rr2, h⟩
  have vv := r.append rz
  have hl := Fk.len _ _ _ _ sp2
  exact Fk.run A outer s H ⟨us, []⟩ (us ++ dz) _ Q E hr e0 (hbnd s us (e0.mod.kin.keeps fun b o e => (e0.bs b o e).1) (by rw [← vv.length]; exact hl)) vv sp2
end
end PV
set_option Elab.async false
set_option linter.all false
set_option maxRecDepth 100000
set_option maxHeartbeats 4000000
/-! staticmethods, called through their class -/
namespace PV
open PySem PySem.Spec PyProof.Rows L2 ZL
/-- C.m is a staticmethod: its record at p, its def at g -/
structure SMet (K : PySem.W.Frag) (C : Addr) (mc : Value) (m : Str) (p g : Addr) : Prop where
  at_ : PySem.W.findCls K (.ref C) mc m = some (.get (.builtin "staticmethod.__get__") (.ref p) .none (.ref C))
  rc : ∃ rest, PySem.W.recIn K p "staticmethod" = some (.ref g :: rest)
  kp : PySem.W.keepIn K (.ref g) = true
theorem getsm_ok {X : Cx} {pins : List (Addr × Obj)} {σ : L2.St} {H : Hp} {s : Shared} {C p g : Addr} {mc : Value} {m : Str} {A : Around} {E : Value → Shared → Prop} {pl : Sem Bool} {Q : Value × List Value → Shared → Prop} (I : Inv X pins σ H s) (r : ClX.CRead X.K C mc) (k : SMet X.K C mc m p g)
    (h : ∀ s', Inv X pins σ H s' → Q (.ref g, []) s') : wpAny (model X.prog X.w) A (getMethod (.ref C) m pl) Q E s := by
  obtain ⟨rest, hp⟩ := k.rc
  exact PySem.W.method_cls I.kIn r.ga (PySem.W.cls_bind I.kIn r.rd k.at_ (wpAny_call (PySem.W.sm_get (s := { s with toks := s.toks + 1 }) I.kIn hp (PySem.W.handed_on rfl (h _ (I.tok _))))))
def tSMeth (C : Addr) (sp : Sp) (E : XK) (ta : TE) (t : TA) : TE := fun σ H Q => ta σ H fun x H1 => x = .ref C ∧ t σ H1 fun vs H2 => sp vs H2 Q E
section
variable {X : Cx} {CX : CXT} {k : Nat} {C p g : Addr} {mc : Value} {sp : Sp} {E : XK} {o e : Expr} {es : List Expr} {f m : Str} {pos apos : Pos} {ta : TE} {t : TA} {pl : Sem Bool}
theorem pe_smeth (he : PE X o ta) (r : ClX.CRead X.K C mc) (c : SMet X.K C mc m p g) (F : FnR X.prog X.w X.K X.mg X.base CX k g sp) (hr : Room k X.A) (hx : Passes CX X E) (ha : PA X (e :: es) t)
    (hst : starEach (e :: es) X.env = (false, eval e X.env) :: starEach es X.env := by rfl) (hpl : (backTo pos (starEach es X.env)).any (·.1) = false := by rfl)
    (ht : eval (.Call (.Attribute o m apos) (e :: es) [] pos) X.env = (do
      let ov ← eval o X.env
      standAt apos.atName
      let (f, first) ← holding [ov] (getMethod ov m pl)
      callWith pos f first (backTo pos (starEach (e :: es) X.env)) (backToKw pos (keywordEach [] X.env))) := by rfl) :
    PE X (.Call (.Attribute o m apos) (e :: es) [] pos) (tSMeth C sp E ta t) := by
  refine ⟨fun pins s σ H Q I h => ?_⟩
  refine PySem.W.methodCall_KW (pl := pl) (thn (he.run pins s σ H _ I h) fun u s1 ⟨x, H1, I1, rx, ex, q⟩ => ?_) ht
  subst ex
  obtain rfl : u = Value.ref C := rx
  refine getsm_ok I1 r c fun s2 I2 => ?_
  exact PySem.W.callWith_K (first := []) (h₀ := X.base) I2.ok.mod.kin c.kp (thn (ha.run pos _ s2 σ H1 _ I2 q) fun us s3 ⟨vs, H2, I3, rv, q2⟩ => ⟨I3.kIn, wpAny_call (run_fnR F hr hx I3 rv q2)⟩) hst hpl
end
/-- C.m(..), m a staticmethod -/
def smE (c : String) (F : Fn) (o : ME) (ms : MA) : ME := fun ρ S => (o ρ S).bind fun x S1 => if isCl c x = true then (ms ρ S1).bind fun ds S2 => F ds S2 else .no
section
variable {X : Cx} {c : String} {F : Fn} {j : Nat} {o e : Expr} {es : List Expr} {mo : ME} {ms : MA} {apos pos : Pos} {m : Str} {p g : Addr} {mc : Value} {pl : Sem Bool}
theorem qe_sm (hrd : ClX.CRead X.K (gaS X.K c) mc) (hcm : SMet X.K (gaS X.K c) mc m p g) (Ff : FnF X.prog X.w X.K X.mg X.base j g F) (hr : Room j X.A) (ho : QE X o mo) (ha : QA X (e :: es) ms)
    (hst : starEach (e :: es) X.env = (false, eval e X.env) :: starEach es X.env := by rfl) (hpl : (backTo pos (starEach es X.env)).any (·.1) = false := by rfl)
    (ht : eval (.Call (.Attribute o m apos) (e :: es) [] pos) X.env = (do
      let ov ← eval o X.env
      standAt apos.atName
      let (f, first) ← holding [ov] (getMethod ov m pl)
      callWith pos f first (backTo pos (starEach (e :: es) X.env)) (backToKw pos (keywordEach [] X.env))) := by rfl) :
    QE X (.Call (.Attribute o m apos) (e :: es) [] pos) (smE c F mo ms) :=
  qe_of (pe_smeth ho hrd hcm Ff hr passE ha hst hpl ht) fun ρ S G σ H Q sm re h => by
    refine ⟨ρ, S, G, sm, re, (sat.bind h).imp fun v H1 w => ?_⟩
    obtain ⟨x, S1, G1, le1, sm1, r1, q1⟩ := w
    split at q1
    · rename_i hc
      obtain ⟨rfl, rfl⟩ := isCl_rp hc r1
      refine ⟨rfl, ρ, S1, G1, sm1, re.mono le1.le, (sat.bind q1).imp fun vs H2 w => ?_⟩
      obtain ⟨ds, S2, G2, le2, sm2, r2, q2⟩ := w
      exact ⟨ds, S2, G2, sm2, r2, sat_sp q2⟩
    · exact q1.elim
end
end PV
set_option Elab.async false
set_option linter.all false
set_option maxRecDepth 100000
set_option maxHeartbeats 4000000
/-! calls by names -/
namespace PV
open PySem PySem.Spec PyProof.Rows L2 ZL
/-- the items at some places -/
def pickL {α : Type} (idx : List Nat) (l : List α) : List α := idx.filterMap fun i => l[i]?
theorem vals_at : ∀ {vs : List V} {us : List Value}, Vals vs us → ∀ i : Nat, (vs[i]? = none ∧ us[i]? = none) ∨ ∃ v u, vs[i]? = some v ∧ us[i]? = some u ∧ RelV v u
  | _, _, .nil, _ => .inl ⟨rfl, rfl⟩
  | _, _, .cons a b, 0 => .inr ⟨_, _, rfl, rfl, a⟩
  | _, _, .cons a b, i + 1 => by simpa using vals_at b i
theorem pick_vals {vs : List V} {us : List Value} (h : Vals vs us) : ∀ idx : List Nat, Vals (pickL idx vs) (pickL idx us)
  | [] => .nil
  | i :: idx => by
    have ih := pick_vals h idx
    unfold pickL at ih ⊢
    rw [List.filterMap_cons, List.filterMap_cons]
    rcases vals_at h i with ⟨h1, h2⟩ | ⟨v, u, h1, h2, h3⟩
    · rw [h1, h2]
      exact ih
    · rw [h1, h2]
      exact .cons h3 ih
theorem pick_rps {K : PySem.W.Frag} {G : Gh} {ds : List D} {vs : List V} (h : Rps K G ds vs) : ∀ idx : List Nat, Rps K G (pickL idx ds) (pickL idx vs)
  | [] => .nil
  | i :: idx => by
    have ih := pick_rps h idx
    unfold pickL at ih ⊢
    rw [List.filterMap_cons, List.filterMap_cons]
    cases e : ds[i]? with
    | none =>
      have e2 : vs[i]? = none := by
        cases e2 : vs[i]? with
        | none => rfl
        | some v =>
          obtain ⟨d, h1, _⟩ := h.get' e2
          rw [e] at h1
          cases h1
      rw [e2]
      exact ih
    | some d =>
      obtain ⟨v, h1, h2⟩ := h.get e
      rw [h1]
      exact .cons h2 ih
/-- the call with some values by position, then by name; dds: the defaults -/
def kwF (idx : List Nat) (dds : List D) (F : Fn) : Fn := fun ds S => F (pickL idx (ds ++ dds)) S
/-- what a def promises to calls by names -/
def FnKO (P : Program) (w : World) (K : PySem.W.Frag) (mg : Str → Option Value) (base : Heap) (k : Nat) (f : Addr) (n : Nat) (ks : List Str) (F : Fn) : Prop :=
  ∃ (fd : FuncData) (ps : List Str) (g : List Value → List Value → List Value) (gV : List V → List V → List V) (sp : Sp), FnOk P w K mg base (L2.CX P w) k f fd ps sp ∧ KBn K fd ps n ks g gV ∧
    ∀ vs zs H Q E, spF K F (vs ++ zs) H Q E → sp (gV vs zs) H Q E
section
variable {P : Program} {w : World} {K : PySem.W.Frag} {mg : Str → Option Value} {base : Heap} {x qual : Str} {st : Stmt} {kws : List (Str × V)} {f : Addr} {fd : FuncData} {N ps : List Str} {j : Nat} {b : MS} {dvs : List V} {dds : List D}
/-- no defaults -/
theorem okK0 {np n m : Nat} (ks : List Str) (idx : List Nat) (F : FunD K x qual (defArgs st) (defBody st) (defScope st) [] kws f fd) (S : FnScope N ps (defScope st)) (hn : ps.length = np) (hN : N.length = n)
    (hb : ∀ (kV doc pm : Value) (an : Option Addr) (cdv ct : Value) (us ws : List Value), us.length = m → ws.length = ks.length → bindArgs (PySem.W.fnOf x qual (defArgs st) (defBody st) (defScope st) .none kV doc pm an cdv ct) ⟨us, ks.zip ws⟩ = pure (ps.zip (pickL idx (us ++ ws))))
    (hbody : ∀ (cdv : Value) (A : Around) (outer : List Env) (s : Shared) (H : Hp) (E : XK), Room j (A.deeper (envOfC qual (defScope st) s.heap.objs.size f cdv)) →
      QSs (cxOf (L2.CX P w) P w K mg base N qual (defScope st) f cdv A outer s H E) (defBody st) b) : FnKO P w K mg base (j + 1) f m ks (kwF idx [] (dfn np n b)) := by
  have Fk : FnOk P w K mg base (L2.CX P w) (j + 1) f fd ps (spF K (dfn np n b)) := F.ok S (spF_len hn) fun cdv A outer s H vs Q E hr h =>
    ⟨_, hbody cdv A outer s H E hr, body_start rfl (takes_of rfl rfl rfl rfl) hn hN h⟩
  refine ⟨fd, ps, fun us ws => pickL idx (us ++ ws), fun vs zs => pickL idx (vs ++ zs), _, Fk, ⟨?_, fun r r' => pick_vals (r.append r') idx⟩, ?_⟩
  · obtain ⟨oc, od, dV, kV, doc, pm, an, cdv, ct, osl, rfl, lk, hcd, hD, hK⟩ := F.ex
    intro s us ws _ l1 l2
    rcases hD with ⟨_, rfl⟩ | ⟨e, _⟩
    · exact .of_eq (hb kV doc pm an cdv ct us ws l1 l2)
    · exact absurd rfl e
  · rintro vs zs H Q E ⟨ds, S, G, sm, r, h⟩
    refine ⟨pickL idx ds, S, G, sm, pick_rps r idx, ?_⟩
    have e : kwF idx [] (dfn np n b) ds S = dfn np n b (pickL idx ds) S := by
      unfold kwF
      rw [List.append_nil]
    rw [e] at h
    exact h
end
/-! ### the values by name -/
abbrev QK (X : Cx) (kws : List Keyword) (m : MA) : Prop := PK X kws (tA X m)
section
variable {X : Cx} {e : Expr} {m : ME} {ms : MA} {kws : List Keyword} {nm : Option Str} {kpos : Pos}
theorem qk_nil : QK X [] aNil := ⟨fun pos pins s σ H Q I h => pk_nil.run pos pins s σ H Q I (by
  obtain ⟨ρ, S, G, sm, re, q⟩ := h
  exact q G H [] .refl sm .nil)⟩
theorem qk_cons (h : QE X e m) (hs : QK X kws ms) : QK X (⟨nm, e, kpos⟩ :: kws) (aCons m ms) :=
  ⟨fun pos pins s σ H Q I z => (pk_cons h hs).run pos pins s σ H Q I (by
    obtain ⟨ρ, S, G, sm, re, q⟩ := z
    refine ⟨ρ, S, G, sm, re, (sat.bind q).imp fun x H1 w => ?_⟩
    obtain ⟨d, S1, G1, le1, sm1, r1, q1⟩ := w
    refine ⟨ρ, S1, G1, sm1, re.mono le1.le, (sat.bind q1).imp fun xs H2 w => ?_⟩
    obtain ⟨ds, S2, G2, le2, sm2, r2, q2⟩ := w
    exact q2 G2 H2 _ .refl sm2 (.cons (r1.mono le2.le) r2))⟩
end
/-- just so many -/
def ofLen (n : Nat) (F : Fn) : Fn := fun ds S => if ds.length = n then F ds S else .no
/-! ### C(k = v, ..) -/
section
variable {X : Cx} {c : String} {F : Fn} {j : Nat} {f : Addr} {ms : MA} {p pos : Pos} {kws : List Keyword} {ks : List Str}
theorem qe_mkK {g : Fn} (hg : MkRd X c F g) (M : Mk X.K (gaS X.K c) f) (Ff : FnKO X.prog X.w X.K X.mg X.base j f 1 ks F) (hr : Room (j + 1) X.A) (hm : X.mg (Str.ofString c) = some (.ref (gaS X.K c))) (ha : QK X kws ms) (hgl : Gl X (Str.ofString c) := by rfl) (hdb : (Str.ofString c == ("__debug__" : Str)) = false := by decide)
    (hall : (backToKw pos (keywordEach kws X.env)).all (·.1.isSome) = true := by rfl) (hks : (backToKw pos (keywordEach kws X.env)).filterMap (·.1) = ks := by rfl)
    (hpl : ((backTo pos (starEach [] X.env)).any (·.1) || (backToKw pos (keywordEach kws X.env)).any (·.1.isNone)) = false := by rfl) :
    QE X (.Call (.Name (Str.ofString c) p) [] kws pos) (cal (ofLen ks.length g) ms) := by
  obtain ⟨fd, ps, gg, gV, sp, Fk, hb, hsp⟩ := Ff
  refine qe_of (pe_makeK0 M Fk hr hgl hm hb passE ha hall hks hdb hpl) fun ρ S G σ H Q sm re h => ?_
  have h : sat X (Rp X.K) G H ((ms ρ S).bind fun ds S1 => ofLen ks.length g ds S1) Q := h
  show tA X ms σ H _
  refine ⟨ρ, S, G, sm, re, (sat.bind (R := Rps X.K) h).imp fun vs H1 w => ?_⟩
  obtain ⟨ds, S1, G1, le1, sm1, r1, q1⟩ := w
  unfold ofLen at q1
  split at q1
  · rename_i hl
    exact ⟨rfl, by rw [r1.length]; exact hl, fun x dx h1 h2 h3 => hsp _ _ _ _ _ (hg sm1 r1 q1 x dx h1 h2 h3)⟩
  · exact q1.elim
end
end PV
set_option Elab.async false
set_option linter.all false
set_option maxRecDepth 100000
set_option maxHeartbeats 4000000
/-! C.m(k = v, ..) of a staticmethod; o.m(k = v, ..) of an instance -/
namespace PV
open PySem PySem.Spec PyProof.Rows L2 ZL
section
variable {X : Cx} {c : String} {F : Fn} {j : Nat} {o : Expr} {mo : ME} {ms : MA} {apos pos : Pos} {m : Str} {p g : Addr} {mc : Value} {pl : Sem Bool} {kws : List Keyword} {ks : List Str}
/-- o.m(k = v, ..), o of the class c -/
def mtK (c : String) (n : String) (k : Nat) (F : Fn) (o : ME) (ms : MA) : ME := fun ρ S => (o ρ S).bind fun x S1 => match insOf S1 x with
  | some (c', fs) => if c' = c then match fs.lookup n with
      | none => (ms ρ S1).bind fun ds S2 => if ds.length = k then F (x :: ds) S2 else .no
      | some _ => .no
    else .no
  | none => .no
end
end PV
set_option Elab.async false
set_option linter.all false
set_option maxRecDepth 100000
set_option maxHeartbeats 4000000
/-! int + own, int - own; a staticmethod's facts -/
namespace PV
open PySem PySem.Spec PyProof.Rows L2 ZL
theorem smet_of {K : PySem.W.Frag} {C : Addr} {m : Str} (h : He5.wrapB K C "staticmethod" "staticmethod.__get__" m = true) (hf : PySem.W.keepIn K (.ref (He5.wf K C "staticmethod" m)) = true) : SMet K C (.type "type") m (He.ma K C m) (He5.wf K C "staticmethod" m) := by
  obtain ⟨h1, h2⟩ := He5.wrapB_ok h
  exact ⟨h1, h2, hf⟩
end PV
set_option Elab.async false
set_option linter.all false
set_option maxRecDepth 100000
set_option maxHeartbeats 4000000
/-! sets of unlike texts: len(set(xs)) -/
namespace ZS
open PySem PySem.Spec PyProof.Rows
theorem getD_at {xs : List Str} {i : Nat} (h : i < xs.length) : xs.getD i Str.empty = xs[i] := by
  rw [List.getD_eq_getElem?_getD, List.getElem?_eq_getElem h]
  rfl
theorem fresh_at {xs : List Str} (nd : xs.Nodup) {i : Nat} (h : i < xs.length) : ((xs.take i).any fun z => z == xs[i]) = false := by
  rw [List.any_eq_false]
  intro z hz e
  obtain ⟨j, hj, rfl⟩ := List.mem_iff_getElem.mp hz
  rw [List.length_take] at hj
  rw [List.getElem_take, beq_iff_eq] at e
  exact List.pairwise_iff_getElem.mp nd j i (by omega) h (by omega) e
theorem next_any {xs : List Str} {i : Nat} (h : i < xs.length) (z : Str) : (((xs.take i).any fun y => y == z) || decide (z = xs[i])) = (xs.take (i + 1)).any fun y => y == z := by
  rw [List.take_add_one, List.getElem?_eq_getElem h, List.any_append]
  congr 1
  by_cases e : z = xs[i]
  · subst e; simp
  · rw [decide_eq_false e]
    simp
    exact fun q => e q.symm
/-- how many unlike ones the first i are -/
def dN (xs : List Str) : Nat → Nat
  | 0 => 0
  | i + 1 => if ((xs.take i).any fun z => z == xs.getD i Str.empty) = true then dN xs i else dN xs i + 1
theorem dN_le (xs : List Str) : ∀ i, dN xs i ≤ i
  | 0 => Nat.le_refl _
  | i + 1 => by
    have := dN_le xs i
    unfold dN
    split <;> omega
theorem dN_nodup {xs : List Str} (nd : xs.Nodup) : ∀ i, i ≤ xs.length → dN xs i = i
  | 0, _ => rfl
  | i + 1, h => by
    have lt : i < xs.length := h
    show (if ((xs.take i).any fun z => z == xs.getD i Str.empty) = true then dN xs i else dN xs i + 1) = _
    rw [getD_at lt, if_neg (by rw [fresh_at nd lt]; decide), dN_nodup nd i (by omega)]
section
variable {prog : Program} {w : World} {A : Around} {R : Result → Shared → Prop} {I : Addr} {fp wr : List Addr} {G : Array GenState → Array GenState → Prop} {n : Nat} {P : Nat → Value → Prop} {St : Nat → Shared → Prop}
abbrev SetAt (prog : Program) (w : World) (xs : List Str) (S : Addr) (i : Nat) (h : Heap) : Prop := h.SetOf (PySem.strKind prog w) S (fun z => (xs.take i).any fun y => y == z) (dN xs i)
theorem at_moved {xs : List Str} {S : Addr} {i : Nat} {h h' : Heap} (q : SetAt prog w xs S i h) (k : ∀ o, h.get? S = some o → h'.get? S = some o) : SetAt prog w xs S i h' := by
  obtain ⟨o, es, ep, t, ho, z⟩ := q
  exact ⟨o, es, ep, t, k o ho, z⟩
/-- one more of the texts is put in, till there is none -/
theorem fills (W : WalksS prog w A.in1 I fp wr G n P St) (S : Addr) (out : S ∉ fp) {xs : List Str} (hn : xs.length = n) (few : n < 4000) (at_ : ∀ i v, P i v → ∃ t, v = .str (xs.getD i Str.empty) t) :
    ∀ (k i : Nat) (s : Shared), k = n - i → i ≤ n → St i s → SetAt prog w xs S i s.heap → (∀ s', Moved (S :: wr) G s s' → SetAt prog w xs S n s'.heap → R (.ok (.ret .none)) s') → codeAny (model prog w) A (.builtin "set.update.loop" ⟨[.ref S, .ref I], []⟩) R s
  | 0, i, s, hk, hi, st, q, r => by
    have e : i = n := by omega
    subst e
    have nw : S ∉ wr := fun z => out (W.sub _ z)
    refine codeAny_builtin PyProof.Rows.F.entry_set_update_loop ?_
    rw [Around.under_plainId PyProof.Rows.F.plain_set_update_loop _]
    show wpAny _ A.in1 (pyNext (.ref I) >>= _) _ _ s
    refine wpAny_bind (W.done s _ _ st fun s' mv => ?_)
    show wpAny _ A.in1 (ret Value.none) _ _ s'
    exact wpAny_pure (r s' (mv.mono fun b hb => List.mem_cons_of_mem _ hb) (at_moved q fun o e => mv.heap S _ nw e))
  | k + 1, i, s, hk, hi, st, q, r => by
    have lt : i < n := by omega
    have lt' : i < xs.length := by omega
    have nw : S ∉ wr := fun z => out (W.sub _ z)
    refine codeAny_builtin PyProof.Rows.F.entry_set_update_loop ?_
    rw [Around.under_plainId PyProof.Rows.F.plain_set_update_loop _]
    show wpAny _ A.in1 (pyNext (.ref I) >>= _) _ _ s
    refine wpAny_bind (W.item i s _ _ lt st fun v s1 p st1 mv => ?_)
    obtain ⟨t, rfl⟩ := at_ i v p
    rw [getD_at lt']
    have q1 := at_moved q fun o e => mv.heap S _ nw e
    show wpAny _ A.in1 (holding [Value.str xs[i] t] (setAdd S (.str xs[i] t)) >>= _) _ _ s1
    refine wpAny_bind (wpAny_holding ?_)
    unfold setAdd
    refine wpAny_holding (wpAny_bind ((PySem.strKind prog w).pyHash (k := xs[i]) (strKind_is _ _ _ _) ?_))
    refine wpAny_setAddHashed_of (knd := PySem.strKind prog w) (s := { s1 with toks := s1.toks + 1 }) (strKind_is _ _ _ _) rfl q1 (by have := dN_le xs i; unfold scanBound; omega) fun h' same q2 => ?_
    have q3 : SetAt prog w xs S (i + 1) h' := SetOf_congr q2 (fun z => next_any lt' z) (by show _ = (if ((xs.take i).any fun z => z == xs.getD i Str.empty) = true then dN xs i else dN xs i + 1); rw [getD_at lt'])
    refine wpAny_pure ⟨plainId_quiet PyProof.Rows.F.plain_set_update_loop _, fills W S out hn few at_ k (i + 1) _ (by omega) lt (W.frame _ s1 _ _ st1 (Nat.le_succ _) fun b hb o e => ?_) q3 fun s2 mv2 q4 => ?_⟩
    · have ne : b ≠ S := fun z => out (z ▸ hb)
      rw [same.2 b ne]
      exact e
    · have mv0 := mv.mono (fun b (hb : b ∈ wr) => List.mem_cons_of_mem S hb)
      refine r s2 (Moved.trans W.gtrans (mv0.then_heap (Nat.le_succ _) fun b o hb e => ?_) mv2) q4
      have ne : b ≠ S := fun z => hb (by rw [z]; exact List.mem_cons_self)
      rw [same.2 b ne]
      exact e
end
section
variable {prog : Program} {w : World} {A : Around} {E : Value → Shared → Prop} {s : Shared}
/-- the set of a list of unlike texts -/
theorem set_of_list {l : Addr} {its : Array Value} {xs : List Str} {Q : Value → Shared → Prop} (hh : A.handled = none) (hl : s.heap.IsList l its) (hi : PyProof.Rows.StrsAre its.toList xs) (few : xs.length < 4000)
    (h : ∀ (h' : Heap) (tk : Nat), SetAt prog w xs s.heap.objs.size its.size h' → (∀ b o, b < s.heap.objs.size → s.heap.get? b = some o → h'.get? b = some o) → Q (.ref s.heap.objs.size) { s with heap := h', toks := tk }) :
    wpAny (model prog w) A (call (.type "set") [.ref l]) Q E s := by
  obtain ⟨c, tl, hmro⟩ := PySem.F.called_set.mro
  have f1 := PySem.F.called_set.made
  have f2 := PySem.F.called_set.sub
  refine wpAny_call (codeAny_of_tree ?_)
  show wpAny _ _ (callAny (.type "set") _) _ _ _
  refine wpAny_pure ⟨Code.quiet_builtin _ (by decide +kernel), codeAny_builtin PySem.F.entry_type_call ?_⟩
  rw [Around.under_plain (weight_type_call_type "set" [.ref l] []) rfl]
  have f3 := PySem.F.called_set.notType
  have f4 := PySem.F.called_set.canCreate
  have f5 := PySem.F.typeCall_set_1 (.ref l)
  repeat (any_goals (first | assumption | wp_step))
  refine codeAny_mono (code_set_new_1 (.ref l) (E := E) (Q₁ := fun x s1 => ∃ led : Bool, x = .ref s.heap.objs.size ∧ s1 = { s with heap := s.heap.push { cls := .type "set", dict := none, data := .set #[] 0 (.fresh 0 0 led) } }) fun led => ⟨led, rfl, rfl⟩) fun r s1 hr => ?_
  match r, hr with
  | .error _, hr => exact hr
  | .ok (.ret x), hr =>
    obtain ⟨led, rfl, rfl⟩ := hr
    obtain ⟨N, hN⟩ : ∃ N, N = s.heap.push { cls := .type "set", dict := none, data := .set #[] 0 (.fresh 0 0 led) } := ⟨_, rfl⟩
    have sz : N.objs.size = s.heap.objs.size + 1 := by rw [hN, Heap.size_push]
    have hS : N.get? s.heap.objs.size = some { cls := .type "set", dict := none, data := .set #[] 0 (.fresh 0 0 led) } := by rw [hN]; exact Heap.get?_push_size _ rfl
    have up : ∀ b o, s.heap.get? b = some o → N.get? b = some o := fun b o e => by rw [hN]; exact Heap.get?_push_of_some _ e
    have hT : Shared.TypeIs { s with heap := N } (.ref s.heap.objs.size) "set" := ⟨_, hS, rfl⟩
    rw [← hN]
    have f6 := PySem.F.called_set.init.lookup
    have f7 := PySem.F.called_set.init.bind (.ref s.heap.objs.size)
    repeat (any_goals (first | assumption | wp_step))
    refine codeAny_mono (codeAny_call_builtin (R := wants (fun r s2 => r = .none ∧ ∃ h' tk, s2 = { s with heap := h', toks := tk } ∧ SetAt prog w xs s.heap.objs.size its.size h' ∧ (∀ b o, b < s.heap.objs.size → s.heap.get? b = some o → h'.get? b = some o)) E)
      PySem.F.called_set.init.plain PySem.F.entry_set_init (check_set_init_1 hT ?_)) fun r2 s2 hr2 => ?_
    · have hl1 : N.IsList l its := by rw [hN]; exact hl.push _
      obtain ⟨ol, hol, hcl, nl, hdl⟩ := hl1
      obtain ⟨ocls, odict, odata, oslots⟩ := ol
      simp only at hcl hdl
      subst hcl hdl
      have hl2 : N.IsList l its := ⟨_, hol, rfl, nl, rfl⟩
      have lS : l < s.heap.objs.size := by
        obtain ⟨o2, e2, _⟩ := hl
        exact Heap.lt_size e2
      have g1 := PySem.F.sub_list_set
      have g2 := PySem.F.sub_list_frozenset
      have g3 : (Value.type "list" == Value.type "dict") = false := by decide
      unfold Builtin.«set.__init__» noKeywords Builtin.Frozenset.updateFrom
      generalize hPI : pyIter = PI
      wp_walk
      subst hPI
      refine wpAny_pyIter_list hl2 (wpAny_bind (wpAny_runValue ?_))
      have h3 : A.in1.in1.in1.handled = none := by simp [hh]
      have ne : l ≠ N.objs.size := by
        rw [sz]
        exact Nat.ne_of_lt (Nat.lt_succ_of_lt lS)
      have out : s.heap.objs.size ∉ [N.objs.size, l] := by
        simp only [List.mem_cons, List.not_mem_nil, or_false, not_or]
        rw [sz]
        exact ⟨Nat.ne_of_lt (Nat.lt_succ_self _), Nat.ne_of_gt lS⟩
      have len : xs.length = its.size := by rw [← StrsAre.len_eq hi, Array.length_toList]
      refine fills ((Walks.list h3 _ l ne its).toS) s.heap.objs.size out len (by omega) (fun i v hv => SS.strs_at hi i v (by rw [Array.getElem?_toList]; exact hv)) (its.size - 0) 0 _ rfl (Nat.zero_le _) ⟨⟨_, Heap.get?_push_size _ rfl, rfl, rfl⟩, hl2.push _⟩ ?qstart ?qend
      case qstart =>
        exact SetOf_congr ((PyProof.Rows.setObjOf_fresh (knd := PySem.strKind prog w) led).setOf (Heap.get?_push_of_some _ hS) (by unfold scanBound; omega)) (fun _ => rfl) rfl
      case qend =>
        intro s3 mv q
        obtain ⟨h', g', d', tk', os'⟩ := s3
        have e1 : g' = s.gens := mv.gens
        have e2 : d' = s.drawn := mv.drawn
        have e3 : os' = s.os := mv.os
        subst e1 e2 e3
        refine wpAny_pure (wpAny_pure ⟨rfl, h', tk', rfl, q, fun b o hb e => ?_⟩)
        refine mv.heap b o ?_ (Heap.get?_push_of_some _ (up b o e))
        simp only [List.mem_cons, List.not_mem_nil, or_false, not_or]
        rw [sz]
        exact ⟨Nat.ne_of_lt hb, Nat.ne_of_lt (Nat.lt_succ_of_lt hb)⟩
    · match r2, hr2 with
      | .error _, hr2 => exact hr2
      | .ok (.ret x), hr2 =>
        obtain ⟨rfl, h', tk, rfl, q, k⟩ := hr2
        repeat (any_goals (first | assumption | wp_step))
        exact h _ _ q k
end
end ZS
namespace L2
open PySem PySem.Spec PyProof.Rows
/-- len(set(xs)), xs a list of unlike texts -/
def tLenS (K : PySem.W.Frag) (ta : TE) : TE := fun σ H Q => ta σ H fun x H1 => ∃ l, ∃ xs : List Str, x = .ref l ∧ SqL K H1 l (xs.map V.str) ∧ xs.length < 4000 ∧ Q (.int (ZS.dN xs xs.length)) H1
theorem pe_lenS {X : Cx} {a : Expr} {ta : TE} {p p2 q pos : Pos} (hc : X.calm = true) (hg : Gl X "len") (hm : X.mg "len" = none) (hg2 : Gl X "set") (hm2 : X.mg "set" = none) (ha : PE X a ta)
    (na : starEach [a] X.env = (false, eval a X.env) :: starEach [] X.env := by rfl) : PE X (.Call (.Name "len" p) [.Call (.Name "set" p2) [a] [] q] [] pos) (tLenS X.K ta) := by
  refine ⟨fun pins s σ H Q I h => Call_ (ld_blt I hg hm boot_len (PyProof.Rows.callWith_builtin1 (PyProof.Rows.args_cons (Call_ (ld_blt I hg2 hm2 boot_set ?_)) rfl) rfl rfl))⟩
  refine PyProof.Rows.callWith_type1 (PyProof.Rows.args_cons (thn (ha.run pins s σ H _ I h) fun v s1 ⟨x, H1, I1, r1, z⟩ => PyProof.Rows.args_nil ?_) na) na rfl
  obtain ⟨l, xs, rfl, hq, few, z⟩ := z
  cases r1
  obtain ⟨its, r, pl, hz⟩ := I1.list hq
  refine ZS.set_of_list (I1.ok.hd hc) pl.isList (by simpa using strsAre_of r) few fun h' tk q k => PyProof.Rows.args_nil ?_
  have hl : its.toArray.size = xs.length := by rw [List.size_toArray, ← r.length, List.length_map]
  rw [hl] at q
  obtain ⟨o, es, ep, t, ho, hex, hd, _, _, _, hf, hn⟩ := q
  have I2 : Inv X pins σ H1 { s1 with heap := h', toks := tk } := I1.kept fun b o e => k b o (Heap.lt_size e) e
  exact call_len_set ho hex hd hf (by rw [hn]; have := ZS.dN_le xs xs.length; omega) ⟨.int (ZS.dN xs xs.length), H1, I2.tok _, ⟨_, by rw [hn]⟩, z⟩
end L2
set_option Elab.async false
set_option linter.all false
set_option maxRecDepth 100000
set_option maxHeartbeats 4000000
/-! a head's Hook that tells written dicts too -/
namespace ZH
open PySem PySem.W L2
/-- the dicts of the module, by name, and their keys in order -/
abbrev Dks : Type := List (Str × List Str)
def obsY (chk : Frag → Bool) (fn : List He5.DefA) (ds : Dks) (K : Frag) : He.AlT := (obsZ chk fn K, ds.map fun d => He.dicW K (He.ga K d.1))
def SaysY (chk : Frag → Bool) (fn : List He5.DefA) (ds : Dks) (w : World) (K : Frag) : Prop := obsY chk fn ds K = (He5.valA fn, ds.map fun d => some (He.keysIn w.params d.2))
section
variable {chk : Frag → Bool} {fn : List He5.DefA} {ds : Dks} {w : World} {K : Frag}
theorem SaysY.z (c : SaysY chk fn ds w K) : SaysZ chk fn K := congrArg (fun z : He.AlT => z.1) c
theorem SaysY.dict (c : SaysY chk fn ds w K) {x : Str} {ks : List Str} (h : (x, ks) ∈ ds) : ∃ es n, L2.KDict K w (He.ga K x) es n := by
  obtain ⟨i, hi, e⟩ := List.mem_iff_getElem.mp h
  have e1 : ds.map (fun d => He.dicW K (He.ga K d.1)) = ds.map fun d => some (He.keysIn w.params d.2) := congrArg (fun z : He.AlT => z.2) c
  have e2 := congrArg (fun l : List (Option (List (Option (Str × Int)))) => l[i]?) e1
  simp only [List.getElem?_map, List.getElem?_eq_getElem hi, Option.map_some, e] at e2
  exact He.dicW_ok (Option.some.inj e2)
end
end ZH
set_option Elab.async false
set_option linter.all false
set_option maxRecDepth 100000
set_option maxHeartbeats 4000000
/-! texts and dicts: enumerate(text), f'..', s.index, len(set(texts)), {..}, d[k], d.get(k) -/
namespace ZL
open PySem PySem.Spec PyProof.Rows L2
/-! ### enumerate(z) of a text -/
end ZL
set_option Elab.async false
set_option linter.all false
set_option maxRecDepth 100000
set_option maxHeartbeats 4000000
/-! the rules for texts and dicts, over plain values -/
namespace PV
open PySem PySem.Spec PyProof.Rows L2 ZL
/-! ### enumerate(text) -/
def ensD (ds : List D) (S1 : Sto) : Out (List D × Option Nat) := match ds with
  | [.str z] => .ok (numbered 0 (signs z), none) S1
  | _ => .no
def iEs (m : MA) : MI := fun ρ S => (m ρ S).bind ensD
/-! ### len(set(xs)), xs a list of unlike texts -/
def lnsE (m : ME) : ME := fun ρ S => (m ρ S).bind fun d S1 => match d with
  | .lst xs => match asStrs xs with
    | some ys => if ys.Nodup ∧ ys.length < 4000 then .ok (.int ys.length) S1 else .no
    | none => .no
  | _ => .no
theorem qe_lns {X : Cx} {a : Expr} {m : ME} {p p2 q pos : Pos} (hm : X.mg "len" = none) (hm2 : X.mg "set" = none) (ha : QE X a m) (hc : X.calm = true := by rfl) (hg : Gl X "len" := by rfl) (hg2 : Gl X "set" := by rfl)
    (na : starEach [a] X.env = (false, eval a X.env) :: starEach [] X.env := by rfl) : QE X (.Call (.Name "len" p) [.Call (.Name "set" p2) [a] [] q] [] pos) (lnsE m) := qe_of (pe_lenS hc hg hm hg2 hm2 ha na) fun ρ S G σ H Q sm re h => by
  refine ⟨ρ, S, G, sm, re, (sat.bind h).imp fun v H1 w => ?_⟩
  obtain ⟨d, S1, G1, le1, sm1, r1, q1⟩ := w
  split at q1
  · split at q1
    · rename_i ys hys
      split at q1
      · rename_i hc
        cases r1 with
        | lst h1 r =>
          rw [asStrs_rp hys r] at h1
          exact ⟨_, ys, rfl, SqL.of (sm1.fr _ _ h1), hc.2, by rw [ZS.dN_nodup hc.1 _ (Nat.le_refl _)]; exact q1 G1 H1 _ .refl sm1 (.int _)⟩
      · exact q1.elim
    · exact q1.elim
  · exact q1.elim
/-! ### f'..' -/
/-! ### z.index(y) -/
def indexG : G2 := fun x y S => match x, y with
  | .str a, .str b => match Builtin.Str.occurrences a b 0 a.length 1 with
    | i :: _ => .ok (.int (i : Nat)) S
    | [] => .no
  | _, _ => .no
theorem mf_index {X : Cx} : Mt1 X "str.index" indexG := fun pins s σ H v vs u us Q I rv rs ⟨x, y, w, S, G, sm, rx, ev, ry, h⟩ => by
  subst ev
  unfold indexG at h
  split at h
  · split at h
    · rename_i i rest ho
      cases rx; cases ry
      exact mt_sindex pins s σ H _ _ u us Q I rv rs ⟨_, _, i, rest, rfl, rfl, ho, h G H _ .refl sm (.int _)⟩
    · exact h.elim
  · exact h.elim
theorem qe_index {X : Cx} {o e : Expr} {mo m : ME} {apos pos : Pos} (ho : QE X o mo) (he : QE X e m) (hs : starEach [e] X.env = [(false, eval e X.env)] := by rfl) (hbase : attributeBase o "index" X.env (eval o X.env) = eval o X.env := by rfl) (hline : (apos.endLine == pos.line) = true := by rfl) :
    QE X (.Call (.Attribute o "index" apos) [e] [] pos) (mthS indexG mo m) := qe_mthS F.slot_str_index F.type_str_index mf_index ho he hs hbase hline
/-! ### a written dict of texts, by its name -/
/-! ### a dict of one's own, of constants -/
inductive Cst where
  | int (i : Int) | str (z : Str) | bl (b : Bool) | non
def Cst.v : Cst → V
  | .int i => .int i
  | .str z => .str z
  | .bl b => .bl b
  | .non => .non
def Cst.d : Cst → D
  | .int i => .int i
  | .str z => .str z
  | .bl b => .bl b
  | .non => .non
def kvV (kvs : List (Str × Cst)) : List (Key × V) := kvs.map fun q => (.inr q.1, q.2.v)
def dcE (kvs : List (Str × Cst)) : ME := fun _ S => .ok (.hob (.dK (mergeK [] (kvV kvs)))) S
end PV
set_option Elab.async false
set_option linter.all false
set_option maxRecDepth 100000
set_option maxHeartbeats 4000000
/-! repr of None, of truths, of texts; rooms -/
namespace PV
open PySem PySem.Spec PyProof.Rows L2 ZL
def reprN (g : Fn) : Fn := fun ds S => match ds with
  | [.non] => .ok (.str "None") S
  | [.bl b] => .ok (.str (if b = true then "True" else "False")) S
  | [.str z] => if (reprText z).length ≤ sizeLine then .ok (.str (reprText z)) S else .no
  | ds => g ds S
theorem cf_reprN {X : Cx} {g : Fn} (h : CallF X (.builtin "repr") g) : CallF X (.builtin "repr") (reprN g) := fun pins s σ H vs us Q I rv ⟨ds, S, G, sm, r, z⟩ => by
  unfold reprN at z
  split at z
  · obtain ⟨v, rfl, q⟩ := vals1 r
    cases q
    obtain ⟨u, rfl, e⟩ := L2.vals1 rv
    cases e
    exact PySem.P.repr_of_none ⟨.str "None", H, I.tok _, ⟨_, rfl⟩, z G H _ .refl sm (.str _)⟩
  · rename_i b
    obtain ⟨v, rfl, q⟩ := vals1 r
    cases q
    obtain ⟨u, rfl, e⟩ := L2.vals1 rv
    cases e
    exact PySem.P.repr_of_bool ⟨.str (if b = true then "True" else "False"), H, I.tok _, ⟨_, by cases b <;> rfl⟩, z G H _ .refl sm (.str _)⟩
  · split at z
    · rename_i t hc
      obtain ⟨v, rfl, q⟩ := vals1 r
      cases q
      obtain ⟨u, rfl, e⟩ := L2.vals1 rv
      obtain ⟨k, rfl⟩ := e
      exact PySem.P.repr_of_str (hsz := hc) ⟨.str _, H, I.tok _, ⟨_, rfl⟩, z G H _ .refl sm (.str _)⟩
    · exact z.elim
  · exact h pins s σ H vs us Q I rv ⟨_, S, G, sm, r, z⟩
theorem u1 {j : Nat} {A : Around} (r : Room j A) : A.units + 1 < cLine := by have := r.un; omega
theorem dval_of {K : PySem.W.Frag} {a : Addr} {k v : Str} (h : (match PySem.W.nsIn K a k with | some (some (.str y _)) => decide (y = v) | _ => false) = true) : ∃ t, PySem.W.nsIn K a k = some (some (.str v t)) := by
  split at h
  · rename_i y t e
    have := of_decide_eq_true h
    subst this
    exact ⟨t, e⟩
  · cases h
end PV
set_option Elab.async false
set_option linter.all false
set_option maxRecDepth 100000
set_option maxHeartbeats 4000000
/-! xs[i] op= e; a list that is written no more; [x] * n to be written -/
namespace L2
open PySem PySem.Spec PyProof.Rows
end L2
namespace PV
open PySem PySem.Spec PyProof.Rows L2 ZL
/-! ### a list that is written no more -/
def frzE (m : ME) : ME := fun ρ S => (m ρ S).bind fun d S1 => match d with
  | .loc n => match S1[n]? with
    | some (.lst xs) => .ok (.lst xs) (S1.set n .dead)
    | _ => .no
  | _ => .no
/-! ### [x] * n, to be written -/
/-! ### o[i] op= e -/
end PV
set_option Elab.async false
set_option linter.all false
set_option maxRecDepth 100000
set_option maxHeartbeats 4000000
/-! range(a, b) of numbers as great as one likes -/
namespace L2
open PySem PySem.Spec PyProof.Rows
section
variable {X : Cx} {tg : Expr}
end
end L2
namespace PV
open PySem PySem.Spec PyProof.Rows L2
section
variable {X : Cx} {tg e : Expr} {ms : MA} {p pos : Pos}
end
end PV
set_option Elab.async false
set_option linter.all false
set_option maxRecDepth 100000
set_option maxHeartbeats 4000000
/-! exceptions: kept as values behind a try, asked for their class and their fields; raised -/
namespace PV
open PySem PySem.Spec PyProof.Rows L2 ZL
section
variable {X : Cx} {pins : List (Addr × Obj)} {σ : L2.St} {H : Hp} {s : Shared}
end
/-! ### try: .. / except C as n: y = n -/
section
variable {X : Cx} {x n y : Str} {c : Value} {i j : Nat} {body : List Stmt} {np p1 p2 p3 pos pos' : Pos} {tb : WX → TS}
end
end PV
set_option Elab.async false
set_option linter.all false
set_option maxRecDepth 100000
set_option maxHeartbeats 4000000
namespace PV
open PySem PySem.Spec PyProof.Rows L2 ZL
/-! ### what the head says of a class of errors -/
/-- a class whose __init__ is a def of its own: looked at by the written part -/
def oexB (K : PySem.W.Frag) (C : Addr) : Bool := match K.lookup C with
  | some ⟨.type "type", _, .cls cd, sl⟩ => (match cd.mro, sl.toList with
    | .ref C' :: bm, [_, _, _, _, some (.builtin n), _] => decide (C' = C) && (decide (n = "ValueError.__new__") && (!cd.hasDel && (cd.hasDict && PySem.HandSPX.refsVE bm)))
    | _, _ => false)
  | _ => false
/-- what is asked of an error's class: its instances' fields, kinds, how it is raised -/
def xcB (K : PySem.W.Frag) (C : Addr) : Bool :=
  decide (PySem.W.findIn K (.ref C) "__getattribute__" = some (some (.builtin "BaseException.__getattribute__"))) && (decide (PySem.W.findIn K (.ref C) "__getattr__" = some none) &&
  (decide (PySem.W.subIn K (.ref C) (.type "BaseException") = some true) && (PySem.W.hasDictIn K C && (decide (PySem.W.findIn K (.ref C) "__class__" = some (some (.builtin "object.__class__"))) &&
  (PySem.W.mroIn K C (.type "object") == some true && (decide (PySem.W.typeIn K (.ref C) = some (.type "type")) && (PySem.W.keepIn K (.ref C) && (decide (PySem.W.findIn K (.ref C) "__setattr__" = some (some (.builtin "object.__setattr__")))))))))))
structure XC (K : PySem.W.Frag) (C : Addr) : Prop where
  ga : PySem.W.findIn K (.ref C) "__getattribute__" = some (some (.builtin "BaseException.__getattribute__"))
  gg : PySem.W.findIn K (.ref C) "__getattr__" = some none
  ex : PySem.W.subIn K (.ref C) (.type "BaseException") = some true
  hd : PySem.W.hasDictIn K C = true
  ca : PySem.W.findIn K (.ref C) "__class__" = some (some (.builtin "object.__class__"))
  mo : PySem.W.mroIn K C (.type "object") = some true
  ty : PySem.W.typeIn K (.ref C) = some (.type "type")
  kp : PySem.W.keepIn K (.ref C) = true
  sa : PySem.W.findIn K (.ref C) "__setattr__" = some (some (.builtin "object.__setattr__"))
theorem xc_of {K : PySem.W.Frag} {C : Addr} (h : xcB K C = true) : XC K C := by
  obtain ⟨h1, h⟩ := Bool.and_eq_true_iff.mp h
  obtain ⟨h2, h⟩ := Bool.and_eq_true_iff.mp h
  obtain ⟨h3, h⟩ := Bool.and_eq_true_iff.mp h
  obtain ⟨h4, h⟩ := Bool.and_eq_true_iff.mp h
  obtain ⟨h5, h⟩ := Bool.and_eq_true_iff.mp h
  obtain ⟨h6, h⟩ := Bool.and_eq_true_iff.mp h
  obtain ⟨h7, h⟩ := Bool.and_eq_true_iff.mp h
  obtain ⟨h8, h9⟩ := Bool.and_eq_true_iff.mp h
  exact ⟨of_decide_eq_true h1, of_decide_eq_true h2, of_decide_eq_true h3, h4, of_decide_eq_true h5, by simpa using h6, of_decide_eq_true h7, h8, of_decide_eq_true h9⟩
theorem oex_of {K : PySem.W.Frag} {C : Addr} (x : XC K C) (q : oexB K C = true) : OexC K C := by
  refine ⟨?_, x.sa, x.ex, x.ty, x.kp⟩
  unfold oexB at q
  split at q
  · rename_i dd cd sl ho
    split at q
    · rename_i C' bm k0 k1 k2 k3 n k5 hm hs
      simp only [Bool.and_eq_true, decide_eq_true_eq, Bool.not_eq_true'] at q
      obtain ⟨q1, q2, q3, q4, q5⟩ := q
      obtain ⟨nm, bs, mro, ns, qn, hd, sn, sub, ab, col, del⟩ := cd
      simp only at hm q3 q4
      subst q1 q2 q3 q4 hm
      obtain ⟨l⟩ := sl
      simp only at hs
      subst hs
      exact ⟨nm, qn, ns, bs, bm, sn, sub, ab, col, dd, k0, k1, k2, k3, k5, ho, q5⟩
    · cases q
  · cases q
/-! ### a kept error's kind and fields -/
/-- isinstance(x, T): of an error by the table -/
def isiX (τ : List (String × Bool)) (cls : D → Bool) (g : Fn) : Fn := fun ds S => match ds with
  | [.exc c _, w] => if cls w = true then match τ.lookup c with
      | some b => .ok (.bl b) S
      | none => .no
    else .no
  | ds => g ds S
/-- e.f of a kept error -/
def fldX (cs : List String) (f : String) (g : G1) : G1 := fun d S => match d with
  | .exc c fs => if cs.contains c = true then match fs.lookup f with
      | some x => .ok x S
      | none => .no
    else .no
  | d => g d S
/-! ### raise -/
/-- raise C(..): fl, the fields that C's __init__ stores, in its order -/
def sRai (c : String) (fl : List String) (ms : MA) : MS := fun ρ S => (ms ρ S).bind fun ds S1 => if ds.length = fl.length then .ex c (fl.zip ds).reverse S1 else .no
section
variable {X : Cx} {c : String} {p pos pos' : Pos} {ms : MA}
/-- how a raise is told, whatever makes the error: t, at its arguments' values, ends in the error's class and fields -/
theorem qs_rai_of {fl : List String} {e : Expr} {t : L2.St → Hp → XK → Prop} (hc : X.calm = true) (he : PMk X e t)
    (ht : ∀ ρ S G σ H (W : XK), Sm X.K G S H → Re X.K G ρ σ → sat X (Rps X.K) G H (ms ρ S) (fun vs H1 => ∃ ds S1 G1, Stp G H G1 H1 ∧ Sm X.K G1 S1 H1 ∧ Rps X.K G1 ds vs ∧ ds.length = fl.length ∧ ∀ cls dd H', wEx X.K G1 H1 c (fl.zip ds).reverse S1 cls dd H' → W cls dd H') → t σ H W) :
    QS X (.Raise (some e) none pos') (sRai c fl ms) := ⟨fun pins s σ H D I ⟨ρ, S, G, sm, re, z⟩ => by
  have z2 : satS X G H ((ms ρ S).bind fun ds S1 => if ds.length = fl.length then .ex c (fl.zip ds).reverse S1 else .no) D := z
  cases hm : ms ρ S with
  | no => rw [hm] at z2; exact z2.elim
  | ex c' fs' S' =>
    rw [hm] at z2
    have tk : Takes X (fun cls dd _ H' => wEx X.K G H c' fs' S' cls dd H') := z2
    exact (ps_raise (pos := pos') hc (LamX.takes0 (X := X)) he).run pins s σ H D I (ht ρ S G σ H _ sm re (by rw [hm]; exact tk))
  | ok ds S1 =>
    rw [hm] at z2
    by_cases hl : ds.length = fl.length
    · have tk : Takes X (fun cls dd _ H' => wEx X.K G H c (fl.zip ds).reverse S1 cls dd H') := by
        have z3 : satS X G H (if ds.length = fl.length then .ex c (fl.zip ds).reverse S1 else .no) D := z2
        rw [if_pos hl] at z3
        exact z3
      exact (ps_raise (pos := pos') hc tk he).run pins s σ H D I (ht ρ S G σ H _ sm re (by
        rw [hm]
        exact fun G' H' vs le sm' r => ⟨ds, S1, G', le, sm', r, hl, fun cls dd H2 w => w.anti le⟩))
    · have z3 : satS X G H (if ds.length = fl.length then .ex c (fl.zip ds).reverse S1 else .no) D := z2
      rw [if_neg hl] at z3
      exact z3.elim⟩
/-- the promise of an error's __init__ that stores one value; two -/
def spX1 (C : Addr) (f : Str) : Sp := fun vs H Q _ => ∃ (a : Addr) (y : V), vs = [.ref a, y] ∧ H a = some (exo a C none) ∧ ∀ d, H d = none → d ≠ a → Q .non (upd (upd H d (exd d [(f, y)])) a (exo a C (some d)))
end
section
variable {P : Program} {w : World} {K : PySem.W.Frag} {mg : Str → Option Value} {base : Heap} {x qual : Str} {st : Stmt} {kws : List (Str × V)} {fa C : Addr} {fd : FuncData} {u v1 v2 f g : Str} {p1 p2 p3 p4 p5 p6 p7 p8 : Pos}
theorem ok_x1 (F : FunD K x qual (defArgs st) (defBody st) (defScope st) [] kws fa fd) (Sc : FnScope [u, v1] [u, v1] (defScope st)) (hb : defBody st = [.Assign [.Attribute (.Name u p1) f p2] (.Name v1 p3) p4]) (T : OexC K C) (hn : PySem.W.findIn K (.ref C) f = some none)
    (vu : Vis (defScope st) u := by first | exact .inl rfl | exact .inr (.inl rfl)) (vv : Vis (defScope st) v1 := by first | exact .inl rfl | exact .inr (.inl rfl)) (d1 : (u == ("__debug__" : Str)) = false := by decide) (d2 : (u == ("__classdict__" : Str)) = false := by decide) (d3 : (v1 == ("__debug__" : Str)) = false := by decide) (d4 : (v1 == ("__classdict__" : Str)) = false := by decide)
    (hs : ∀ env, swapsWith (.Name v1 p3) (some (.Attribute (.Name u p1) f p2)) p4.line env = pure false := by intro _; rfl) : FnOk P w K mg base (L2.CX P w) 1 fa fd [u, v1] (spX1 C f) := by
  refine F.ok Sc (fun vs H Q E z => by obtain ⟨a, y, rfl, _⟩ := z; rfl) fun cdv A outer s H vs Q E hr z => ?_
  rw [hb]
  refine ⟨_, pss_one (ps_ost (f := f) (pe_var (i := 0) rfl vu d1 d2) (pe_var (i := 1) rfl vv d3 d4) (hs _)), ?_⟩
  obtain ⟨a, y, rfl, h1, h2⟩ := z
  exact ⟨y, rfl, .ref a, rfl, a, C, rfl, T, hn, .inl ⟨h1, h2⟩⟩
end
end PV
set_option Elab.async false
set_option linter.all false
set_option maxRecDepth 100000
set_option maxHeartbeats 4000000
namespace PV
open PySem PySem.Spec PyProof.Rows L2 ZL
section
variable {X : Cx} {c : String} {e : Expr} {es : List Expr} {p pos pos' : Pos} {ms : MA} {fI : Addr} {fd : FuncData} {ps : List Str}
theorem raised_xd {G1 : Gh} {S1 : Sto} {H1 : Hp} {C a d : Addr} {ws : List (Str × V)} {o1 o2 : HO} {G : Gh} (ha : H1 a = none) (hd : upd H1 a o1 d = none) (hda : d ≠ a) (H2 : Hp) (e2 : ∀ b, b ≠ a → b ≠ d → H2 b = H1 b) : upd (L2.del H2 a) d (.xd ws) = upd H1 d (.xd ws) := by
  funext b
  by_cases q : b = d
  · rw [q, upd_same, upd_same]
  · rw [upd_ne q, upd_ne q]
    by_cases q2 : b = a
    · rw [q2, del_same, ha]
    · rw [del_ne q2, e2 b q2 q]
theorem wEx_xd {G1 : Gh} {S1 : Sto} {H1 : Hp} {d : Addr} {ws : List (Str × V)} {fs : List (String × D)} (sm : Sm X.K G1 S1 H1) (hd : H1 d = none) (r : Rpf X.K G1 fs ws) : wEx X.K G1 H1 c fs S1 (.ref (gaS X.K c)) (some d) (upd H1 d (.xd ws)) :=
  ⟨G1.put d (.xd ws), Stp.put sm hd, sm.put hd, rfl, .inr ⟨d, ws, rfl, upd_same, r.mono (Gh.put_le (sm.free hd))⟩⟩
theorem qs_rai1 {f : String} (hc : X.calm = true) (T : OexC X.K (gaS X.K c)) (iC : PySem.W.findIn X.K (.ref (gaS X.K c)) "__init__" = some (some (.ref fI))) (tI : PySem.W.typeIn X.K (.ref fI) = some (.type "function"))
    (F1 : FnOk X.prog X.w X.K X.mg X.base (L2.CX X.prog X.w) 1 fI fd ps (spX1 (gaS X.K c) (Str.ofString f))) (hr : Room 2 X.A) (hb : Binds X.K fd ps []) (hm : X.mg (Str.ofString c) = some (.ref (gaS X.K c))) (ha : QA X (e :: es) ms)
    (hg : Gl X (Str.ofString c) := by rfl) (hdb : (Str.ofString c == ("__debug__" : Str)) = false := by decide) (he : starEach (e :: es) X.env = (false, eval e X.env) :: starEach es X.env := by rfl) (hpl : (backTo pos (starEach es X.env)).any (·.1) = false := by rfl) :
    QS X (.Raise (some (.Call (.Name (Str.ofString c) p) (e :: es) [] pos)) none pos') (sRai c [f] ms) :=
  qs_rai_of hc (pmk_oex T iC tI F1 hr hb .nil (passes_call (LamX.takes0 (X := X)) fun _ _ _ _ z => z) hg hm ha hdb he hpl) fun ρ S G σ H W sm re h => by
    refine ⟨ρ, S, G, sm, re, h.imp fun vs H1 w => ?_⟩
    obtain ⟨ds, S1, G1, le, sm1, r, hl, hw⟩ := w
    match ds, hl, r, hw with
    | [d0], _, .cons (v := v0) r0 .nil, hw =>
      refine ⟨by simp, fun a na => ⟨a, v0, rfl, upd_same, fun d hd hda => ⟨rfl, d, [(Str.ofString f, v0)], upd_same, by rw [upd_ne hda]; exact upd_same, by rw [upd_ne hda] at hd; exact hd, ?_⟩⟩⟩
      rw [raised_xd (G1 := G1) (S1 := S1) (C := 0) (G := G) (o2 := .own 0) na hd hda _ fun b q1 q2 => by rw [upd_ne q1, upd_ne q2, upd_ne q1]]
      rw [upd_ne hda] at hd
      exact hw _ _ _ (wEx_xd sm1 hd (.cons r0 .nil))
/-- X() of an error class without an __init__ -/
theorem pmk_own0 {C : Addr} {bmB : List Value} {B newId initId : String} {x : Str} (F : ExcBaseFacts B newId initId bmB) (q : PySem.W.excIn X.K C bmB newId = true) (gC : X.mg x = some (.ref C)) (kC : PySem.W.keepIn X.K (.ref C) = true) (r : Raises X (.ref C)) (hg : Gl X x) (hdb : (x == ("__debug__" : Str)) = false) :
    PMk X (.Call (.Name x p) [] [] pos) (fun _ H Q => Q (.ref C) none H) := by
  intro pins s σ H Q I h
  refine wpAny_Call_Name_kw (ld_glob I hg gC ?_ hdb)
  refine PySem.W.callWith_K0 (K := X.K) I.kIn kC ?_
  show wpAny _ _ (call (.ref C) []) _ _ _
  obtain ⟨bm, N, nm, qn, bs, hdct, sn, sub, ab, col, dd, k0, k1, k2, k3, k5, mN, hC, hN, hni, T⟩ := exc_obj I.kIn q
  refine wpAny_call_exc_subT F T hC hN hni (fun h' e hm => mk_of I hm r h (I.hok.gone hm.new)) (Nat.zero_le _)
theorem qs_rai0 (hc : X.calm = true) (q : PySem.W.excIn X.K (gaS X.K c) PySem.HandSPX.veTail "ValueError.__new__" = true) (k : XC X.K (gaS X.K c)) (hm : X.mg (Str.ofString c) = some (.ref (gaS X.K c)))
    (hg : Gl X (Str.ofString c) := by rfl) (hdb : (Str.ofString c == ("__debug__" : Str)) = false := by decide) : QS X (.Raise (some (.Call (.Name (Str.ofString c) p) [] [] pos)) none pos') (sRai c [] aNil) :=
  qs_rai_of hc (pmk_own0 F.excBase_ValueError q hm k.kp (raises_own k.ex k.ty) hg hdb) fun ρ S G σ H W sm re h => by
    have h2 : sat X (Rps X.K) G H (.ok [] S) _ := h
    obtain ⟨ds, S1, G1, le, sm1, r, hl, hw⟩ := h2 G H [] .refl sm .nil
    cases r
    exact hw _ _ _ ⟨G1, .refl, sm1, rfl, .inl ⟨rfl, rfl⟩⟩
end
end PV
set_option Elab.async false
set_option linter.all false
set_option maxRecDepth 100000
set_option maxHeartbeats 4000000
/-! a def that is handed a lambda, calls it once, within a try -/
namespace PV
open PySem PySem.Spec PyProof.Rows L2 ZL
abbrev Hrd := Out D → Sto → Out D
section
variable {X : Cx} {Ng : List Str} {x a n y lx q : Str} {sg : Scope} {g CL : Addr} {cdg : Value} {bg rest : List Stmt} {mr : MS} {errs : List String} {i j k : Nat} {p1 p2 p3 p4 p5 p6 p7 p8 p9 p10 p11 p12 p13 p14 p15 p16 p17 : Pos} {jn jn' : Nat} {kt kt'}
variable {Q : VK}
end
/-! ### x(lambda: body) -/
section
variable {X : Cx} {Ng : List Str} {x a : Str} {st : Stmt} {g : Addr} {fd : FuncData} {kws : List (Str × V)} {c P : Addr} {k : Nat} {params : Arguments} {body : Expr} {scope : Scope} {m : ME} {h : Hrd} {p lpos pos : Pos}
end
end PV
set_option Elab.async false
set_option linter.all false
set_option maxRecDepth 100000
set_option maxHeartbeats 4000000
/-! running what the walks tell -/
namespace PV
open PySem PySem.Spec PyProof.Rows L2 ZL
theorem run_ok {np n : Nat} {b : MS} {ds : List D} {S S' : Sto} {d : D} (hl : ds.length = np) (hS : S'.length = S.length) (h : fin (b (ds.map some ++ List.replicate (n - np) none) S) = .ok d S') : dfn np n b ds S = .ok d S' := by
  unfold dfn
  rw [if_pos hl, h, gc_len hS]
/-! ### small facts -/
theorem toPs_ints : ∀ ns : List Int, toPs (ns.map .int) = some (ns.map .int)
  | [] => by rw [List.map_nil, List.map_nil, toPs]
  | n :: ns => by rw [List.map_cons, toPs, toPs_ints ns, toP]; rfl
theorem belows_ints (m : Nat) : ∀ ns : List Int, belows m (ns.map .int) = true
  | [] => rfl
  | n :: ns => by rw [List.map_cons, belows, belows_ints m ns]; rfl
theorem eqvAll_ints : ∀ ns ms : List Int, PyData.eqvAll (ns.map .int) (ms.map .int) = decide (ns = ms)
  | [], [] => by rw [List.map_nil, PyData.eqvAll]; rfl
  | [], _ :: _ => by rw [List.map_nil, List.map_cons, PyData.eqvAll]; rfl
  | _ :: _, [] => by rw [List.map_nil, List.map_cons, PyData.eqvAll]; rfl
  | n :: ns, m :: ms => by
    rw [List.map_cons, List.map_cons, PyData.eqvAll, eqvAll_ints ns ms, PyData.eqv]
    by_cases h : n = m
    · subst h
      by_cases h' : ns = ms
      · subst h'; simp
      · simp [h']
    · simp [h]
theorem any_ints (n : Int) : ∀ ms : List Int, ((ms.map PyData.int).any fun q => PyData.eqv q (.int n)) = decide (n ∈ ms)
  | [] => by simp
  | m :: ms => by
    rw [List.map_cons, List.any_cons, any_ints n ms, PyData.eqv]
    by_cases h : n = m
    · subst h; simp
    · have h' : (m == n) = false := by simpa using fun e => h e.symm
      rw [h']
      simp [h]
theorem flat_ints : ∀ ns : List Int, ((ns.map PyData.int).all inD.flat) = true
  | [] => rfl
  | n :: ns => by rw [List.map_cons, List.all_cons, flat_ints ns]; rfl
end PV
set_option Elab.async false
set_option linter.all false
set_option maxRecDepth 100000
set_option maxHeartbeats 4000000
namespace PV
open PySem PySem.Spec PyProof.Rows L2 ZL
/-! ### plain data of ints -/
theorem lay_ints : ∀ ns : List Int, PyData.canLayAll0 (ns.map PyData.int) = true
  | [] => by simp [PyData.canLayAll0]
  | n :: ns => by simp [PyData.canLayAll0, PyData.canLay0, lay_ints ns]
theorem depth_ints : ∀ ns : List Int, PyData.depthAll (ns.map PyData.int) = 0
  | [] => by simp [PyData.depthAll]
  | n :: ns => by simp [PyData.depthAll, PyData.depth, depth_ints ns]
theorem shaped_lints (ns : List Int) : SeqAt.shaped (.list (ns.map PyData.int)) = true := by simp [SeqAt.shaped, PyData.canLay0, lay_ints, PyData.depth, depth_ints]
theorem shaped_tints (ns : List Int) : SeqAt.shaped (.tuple (ns.map PyData.int)) = true := by simp [SeqAt.shaped, PyData.canLay0, lay_ints, PyData.depth, depth_ints]
theorem shaped_int (n : Int) : SeqAt.shaped (.int n) = true := by simp [SeqAt.shaped, PyData.canLay0, PyData.depth]
theorem eqD_lints (ns ms : List Int) : eqD (.lst (ns.map .int)) (.lst (ms.map .int)) = some (decide (ns = ms)) := by
  simp [eqD, eqP, toP, toPs_ints, shaped_lints, PyData.eqv, eqvAll_ints]
theorem eqD_tints (ns ms : List Int) : eqD (.tup (ns.map .int)) (.tup (ms.map .int)) = some (decide (ns = ms)) := by
  simp [eqD, eqP, toP, toPs_ints, shaped_tints, PyData.eqv, eqvAll_ints]
theorem eqD_lnil (ns : List Int) : eqD (.lst (ns.map .int)) (.lst []) = some (decide (ns = [])) := eqD_lints ns []
theorem eqD_int (n m : Int) : eqD (.int n) (.int m) = some (decide (n = m)) := by
  simp [eqD, eqP, toP, shaped_int, PyData.eqv]
  by_cases h : n = m
  · subst h; simp
  · simp [h]
/-! ### what draws -/
def penC (cs : List Int) (a r : Int) : Cell := .lst [.lst (cs.map .int), .int a, .int r]
def Pen (S : Sto) (p : Nat) (B : Int) : Prop := ∃ cs a r, S[p]? = some (penC cs a r) ∧ cs.length ≤ 63 ∧ 0 ≤ a ∧ a ≤ B
theorem Pen.mono {S : Sto} {p : Nat} {B B' : Int} (h : Pen S p B) (hb : B ≤ B') : Pen S p B' := by
  obtain ⟨cs, a, r, h1, h2, h3, h4⟩ := h
  exact ⟨cs, a, r, h1, h2, h3, by omega⟩
theorem Pen.lt {S : Sto} {p : Nat} {B : Int} (h : Pen S p B) : p < S.length := by
  obtain ⟨cs, a, r, h1, _⟩ := h
  exact (List.getElem?_eq_some_iff.mp h1).1
theorem Pen.app {S T : Sto} {p : Nat} {B : Int} (h : Pen S p B) : Pen (S ++ T) p B := by
  have hl := h.lt
  obtain ⟨cs, a, r, h1, h2⟩ := h
  exact ⟨cs, a, r, by rw [List.getElem?_append_left hl]; exact h1, h2⟩
/-- the same but for the cells of a pen -/
def SamePen (p : Nat) (S S' : Sto) : Prop := ∃ cs a r, S' = S.set p (penC cs a r)
theorem SamePen.refl {p : Nat} {S : Sto} {B : Int} (h : Pen S p B) : SamePen p S S := by
  have hl := h.lt
  obtain ⟨cs, a, r, h1, _⟩ := h
  refine ⟨cs, a, r, ?_⟩
  obtain ⟨_, h2⟩ := List.getElem?_eq_some_iff.mp h1
  rw [← h2]
  simp
theorem SamePen.trans {p : Nat} {S S' S'' : Sto} (h : SamePen p S S') (h' : SamePen p S' S'') : SamePen p S S'' := by
  obtain ⟨cs, a, r, rfl⟩ := h
  obtain ⟨cs', a', r', rfl⟩ := h'
  exact ⟨cs', a', r', by rw [List.set_set]⟩
theorem SamePen.len {p : Nat} {S S' : Sto} (h : SamePen p S S') : S'.length = S.length := by
  obtain ⟨cs, a, r, rfl⟩ := h
  rw [List.length_set]
theorem SamePen.get {p m : Nat} {S S' : Sto} (h : SamePen p S S') (hm : m ≠ p) : S'[m]? = S[m]? := by
  obtain ⟨cs, a, r, rfl⟩ := h
  rw [List.getElem?_set_ne (Ne.symm hm)]
theorem divOk_small {j : Int} (h : 0 < j) (h' : j < 2 ^ 120) : divOk j = true := by
  unfold divOk
  have : j.natAbs.log2 < 120 := PySem.Flt.log2_lt_of (by decide) (by omega)
  simp [h]
  omega
theorem mulOk_l {i j : Int} (h : -(2 ^ 64) < i) (h' : i < 2 ^ 64) : mulOk i j = true := by
  unfold mulOk
  rw [decide_eq_true ⟨h, h'⟩]
  rfl
theorem powOk_of {i j : Int} (h : 0 ≤ j) (h' : j ≤ 1000000) (hi : i.natAbs < 2 ^ 64) : powOk i j = true := by
  unfold powOk
  rw [decide_eq_true h, decide_eq_true h', decide_eq_true hi]
  rfl
theorem pen0 {S : Sto} {p : Nat} {cs : List Int} {a r : Int} (h : S[p]? = some (penC cs a r)) : ixG (.loc p) (.int 0) S = .ok (.lst (cs.map .int)) S := by
  simp only [ixG, h, penC]
  rfl
theorem pen1 {S : Sto} {p : Nat} {cs : List Int} {a r : Int} (h : S[p]? = some (penC cs a r)) : ixG (.loc p) (.int 1) S = .ok (.int a) S := by
  simp only [ixG, h, penC]
  rfl
theorem pen2 {S : Sto} {p : Nat} {cs : List Int} {a r : Int} (h : S[p]? = some (penC cs a r)) : ixG (.loc p) (.int 2) S = .ok (.int r) S := by
  simp only [ixG, h, penC]
  rfl
theorem ix_ints {ns : List Int} {i : Int} {S : Sto} (h0 : 0 ≤ i) (h1 : i < ns.length) : ixG (.lst (ns.map .int)) (.int i) S = .ok (.int (ns.getD i.toNat 0)) S := by
  have e : L2.atI (ns.map D.int) i = some (.int (ns.getD i.toNat 0)) := by
    unfold L2.atI ixN
    rw [List.length_map, if_pos h0]
    have hlt : i.toNat < ns.length := by omega
    rw [if_pos h1]
    simp [hlt]
  simp only [ixG, e]
end PV
set_option Elab.async false
set_option linter.all false
set_option maxRecDepth 100000
set_option maxHeartbeats 4000000
namespace PV
open PySem PySem.Spec PyProof.Rows
/-! ### one statement after the other -/
theorem go_rt {a b : MS} {ρ : Ev} {S S' : Sto} {d : D} (h : a ρ S = .ok (.rt d) S') : fin (sSeq a b ρ S) = .ok d S' := by
  unfold sSeq
  rw [h]
  rfl
theorem cal_ok {F : Fn} {a : MA} {ρ : Ev} {S S1 : Sto} {ds : List D} {o : Out D} (h1 : a ρ S = .ok ds S1) (h3 : F ds S1 = o) : cal F a ρ S = o := by
  unfold cal
  rw [h1]
  exact h3
theorem cons_ok {e : ME} {a : MA} {ρ : Ev} {S S1 S2 : Sto} {x : D} {ds : List D} (h1 : e ρ S = .ok x S1) (h2 : a ρ S1 = .ok ds S2) : aCons e a ρ S = .ok (x :: ds) S2 := by
  unfold aCons
  rw [h1]
  show (a ρ S1).bind _ = _
  rw [h2]
  rfl
theorem ret_ok {e : ME} {ρ : Ev} {S S' : Sto} {d : D} (h : e ρ S = .ok d S') : sRet e ρ S = .ok (.rt d) S' := by
  unfold sRet
  rw [h]
  rfl
/-! ### how long data is shown -/
def near (z : Str) : Bool := PyData.strOk z
theorem near_iff {z : Str} : near z = true ↔ ∀ c ∈ TL.tl z, c < 0x110000 := by
  unfold near PyData.strOk TL.tl
  rw [← Array.all_toList, List.all_eq_true]
  exact ⟨fun h c hc => of_decide_eq_true (h c hc), fun h c hc => decide_eq_true (h c hc)⟩
mutual
def bd : PyData → Nat
  | .none => 4
  | .bool _ => 5
  | .int _ => 1921
  | .str x => 10 * x.length + 2
  | .list xs => 2 + bdAll xs
  | .tuple xs => 3 + bdAll xs
  | .dict _ => 0
def bdAll : List PyData → Nat
  | [] => 0
  | x :: xs => bd x + 2 + bdAll xs
end
mutual
/-- what is shown within bounds: no dict, no far int, no odd sign -/
def neat : PyData → Bool
  | .none => true
  | .bool _ => true
  | .int i => decide (i.natAbs.log2 < 1920)
  | .str x => near x
  | .list xs => neatAll xs
  | .tuple xs => neatAll xs
  | .dict _ => false
def neatAll : List PyData → Bool
  | [] => true
  | x :: xs => neat x && neatAll xs
end
theorem len_listText (ts : List Str) : (listText ts).length ≤ 2 + piled ts := by
  unfold listText
  rw [strLen_append]
  have e : (("]" : String) : Str).length = 1 := rfl
  rw [e]
  cases ts with
  | nil => decide
  | cons t r =>
    have h : (textFrom 1 (("[" : String) ++ (("" : String) : Str) ++ t) r).length = _ := textFrom_length_pos r 1 _ (by decide)
    have h1 : textFrom 0 (("[" : String) : Str) (t :: r) = textFrom 1 ((("[" : String) : Str) ++ (("" : String) : Str) ++ t) r := rfl
    rw [h1, h, piled_cons, strLen_append, strLen_append]
    have e1 : (("[" : String) : Str).length = 1 := rfl
    have e2 : (("" : String) : Str).length = 0 := rfl
    omega
theorem len_tupleText (ts : List Str) : (tupleText ts).length ≤ 3 + piled ts := by
  unfold tupleText
  rw [strLen_append, strLen_append]
  have e1 : (("(" : String) : Str).length = 1 := rfl
  have e3 : (((if ts.length == 1 then ",)" else ")" : String) : Str)).length ≤ 2 := by split <;> decide
  rw [e1]
  by_cases h : ts = []
  · subst h
    have : (Str.join ((", " : String) : Str) []).length = 0 := rfl
    simp only [piled_nil]
    omega
  · have := join_length_add ts h
    omega
mutual
theorem shown_le : ∀ p : PyData, neat p = true → p.shown.length ≤ bd p
  | .none, _ => by simp [PyData.shown, bd]; decide
  | .bool b, _ => by cases b <;> simp [PyData.shown, bd] <;> decide
  | .int i, h => by
    have h' : i.natAbs.log2 < 1920 := by simpa [neat] using h
    simp only [PyData.shown, bd]
    exact int_text_len_1921 h'
  | .str x, h => by
    simp only [PyData.shown, bd]
    exact StrLaws.reprText_len x fun c hc => by
      have h' : near x = true := by simpa [neat] using h
      have := near_iff.mp h' c hc
      omega
  | .list xs, h => by
    have h' : neatAll xs = true := by simpa [neat] using h
    simp only [PyData.shown, bd]
    have := len_listText (PyData.shownAll xs)
    have := shownAll_le xs h'
    omega
  | .tuple xs, h => by
    have h' : neatAll xs = true := by simpa [neat] using h
    simp only [PyData.shown, bd]
    have := len_tupleText (PyData.shownAll xs)
    have := shownAll_le xs h'
    omega
  | .dict _, h => by simp [neat] at h
theorem shownAll_le : ∀ xs : List PyData, neatAll xs = true → piled (PyData.shownAll xs) ≤ bdAll xs
  | [], _ => by simp [PyData.shownAll, bdAll, piled_nil]
  | x :: xs, h => by
    have h' : neat x = true ∧ neatAll xs = true := by simpa [neatAll] using h
    have a := shown_le x h'.1
    have b := shownAll_le xs h'.2
    simp only [PyData.shownAll, bdAll, piled_cons]
    omega
end
mutual
theorem neat_showable : ∀ p : PyData, neat p = true → p.showable = true ∧ p.hasDict = false
  | .none, _ => by simp [PyData.showable, PyData.hasDict]
  | .bool b, _ => by simp [PyData.showable, PyData.hasDict]
  | .int i, h => by
    have h' : i.natAbs.log2 < 1920 := by simpa [neat] using h
    simp [PyData.showable, PyData.hasDict, h']
  | .str x, h => by simp [PyData.showable, PyData.hasDict]
  | .list xs, h => by
    have h' : neatAll xs = true := by simpa [neat] using h
    have := neatAll_showable xs h'
    simp only [PyData.showable, PyData.hasDict]
    exact this
  | .tuple xs, h => by
    have h' : neatAll xs = true := by simpa [neat] using h
    have := neatAll_showable xs h'
    simp only [PyData.showable, PyData.hasDict]
    exact this
  | .dict _, h => by simp [neat] at h
theorem neatAll_showable : ∀ xs : List PyData, neatAll xs = true → PyData.showableAll xs = true ∧ PyData.hasDictAll xs = false
  | [], _ => by simp [PyData.showableAll, PyData.hasDictAll]
  | x :: xs, h => by
    have h' : neat x = true ∧ neatAll xs = true := by simpa [neatAll] using h
    have a := neat_showable x h'.1
    have b := neatAll_showable xs h'.2
    simp [PyData.showableAll, PyData.hasDictAll, a.1, a.2, b.1, b.2]
end
theorem reprOk_of {p : PyData} (h : neat p = true) (hd : p.depth ≤ 60) (hb : bd p ≤ 16777216) : reprOk p = true := by
  have a := neat_showable p h
  have b := shown_le p h
  have e : sizeLine = 16777216 := by decide
  unfold reprOk
  rw [a.1, a.2, decide_eq_true hd, decide_eq_true (by rw [e]; omega)]
  rfl
theorem neat_ints : ∀ ns : List Int, (∀ n ∈ ns, n.natAbs.log2 < 1920) → neatAll (ns.map .int) = true
  | [], _ => by simp [neatAll]
  | n :: ns, h => by
    have a := h n List.mem_cons_self
    have b := neat_ints ns fun m hm => h m (List.mem_cons_of_mem _ hm)
    simp [neatAll, neat, a, b]
theorem bd_ints : ∀ ns : List Int, bdAll (ns.map .int) = 1923 * ns.length
  | [] => by simp [bdAll]
  | n :: ns => by
    have b := bd_ints ns
    simp only [List.map_cons, bdAll, bd, b, List.length_cons]
    omega
/-! ### texts -/
theorem eqD_str (a b : Str) : eqD (.str a) (.str b) = some (decide (a = b)) := rfl
/-! ### digits -/
end PV
set_option Elab.async false
set_option linter.all false
set_option maxRecDepth 100000
set_option maxHeartbeats 4000000
namespace PV
open PySem PySem.Spec PyProof.Rows
theorem lstM_ok {a : MA} {ρ : Ev} {S S1 : Sto} {ds : List D} (h : a ρ S = .ok ds S1) (hl : ds.length ≤ 1000) : lstM a ρ S = .ok (.loc S1.length) (S1 ++ [.lst ds]) := by
  unfold lstM
  rw [h]
  show (if ds.length ≤ 1000 then _ else _) = _
  rw [if_pos hl]
theorem sli_ok {m : ME} {l h : MO} {ρ : Ev} {S S1 S2 S3 : Sto} {x : D} {lo hi : Option Int} {r : Out D} (h1 : m ρ S = .ok x S1) (h2 : l ρ S1 = .ok lo S2) (h3 : h ρ S2 = .ok hi S3) (h4 : slG x lo hi S3 = r) : sli m l h ρ S = r := by
  unfold sli
  rw [h1]
  show (l ρ S1).bind _ = _
  rw [h2]
  show (h ρ S2).bind _ = _
  rw [h3]
  exact h4
theorem ups_at {lo : Int} {n j : Nat} {x : D} (h : (ups lo n)[j]? = some x) : x = .int (lo + (j : Nat)) ∧ j < n := by
  unfold ups at h
  rw [List.getElem?_map] at h
  obtain ⟨i, hi, rfl⟩ := Option.map_eq_some_iff.mp h
  obtain ⟨h1, h2⟩ := List.getElem?_eq_some_iff.mp hi
  simp at h1 h2
  subst h2
  exact ⟨rfl, h1⟩
theorem ups_len (lo : Int) (n : Nat) : (ups lo n).length = n := by simp [ups]
theorem near62_of {j : Int} (h : 0 ≤ j) (h2 : j ≤ 1000000) : near62 j = true := by
  unfold near62
  exact decide_eq_true (by omega)
end PV
set_option Elab.async false
set_option linter.all false
set_option maxRecDepth 100000
set_option maxHeartbeats 4000000
namespace PV
open PySem PySem.Spec PyProof.Rows
theorem Pen.set {S : Sto} {p m : Nat} {B : Int} {c : Cell} (h : Pen S p B) (hm : m ≠ p) : Pen (S.set m c) p B := by
  obtain ⟨cs, a, r, h1, h2⟩ := h
  exact ⟨cs, a, r, by rw [List.getElem?_set_ne hm]; exact h1, h2⟩
/-- x[:63] of a script -/
theorem cut63 {α : Type} (cs : List α) (h : cs.length ≤ 63) : cutD cs none (some 63) = cs := by
  refine cutD_whole ⟨rfl, ?_⟩
  unfold HT.sIx
  simp only [show ¬ ((63 : Int) < 0) by decide, if_false]
  exact Nat.min_eq_right h
/-- [list(script[:63]), 0, 0] -/
theorem pen_ok {cs : List Int} (h : cs.length ≤ 63) : dfn 1 1 (sSeq (sRet (lstM (aCons (cal listB (aCons (sli (v 0) (oNo) (oSo (k (.int 63)))) (aNil))) (aCons (k (.int 0)) (aCons (k (.int 0)) (aNil)))))) (sNil)) [.src (cs.map .int)] [] = .ok (.loc 0) [penC cs 0 0] := by
  have e : fin (sSeq (sRet (lstM (aCons (cal listB (aCons (sli (v 0) (oNo) (oSo (k (.int 63)))) (aNil))) (aCons (k (.int 0)) (aCons (k (.int 0)) (aNil)))))) (sNil) [some (.src (cs.map .int))] []) = .ok (.loc 0) [penC cs 0 0] :=
    go_rt (ret_ok (lstM_ok (S1 := []) (cons_ok (cal_ok (cons_ok (sli_ok rfl rfl rfl (show slG (.src (cs.map .int)) none (some 63) [] = .ok (.lst (cs.map .int)) [] by
      show Out.ok (D.lst (cutD (cs.map D.int) none (some 63))) [] = _
      rw [cut63 _ (by simpa using h)])) rfl) rfl) (cons_ok rfl (cons_ok rfl rfl))) (by show 3 ≤ 1000; decide)))
  unfold dfn
  rw [if_pos (show [D.src (List.map D.int cs)].length = 1 from rfl)]
  refine (congrArg (gcO []) e).trans ?_
  classical
  unfold gcO
  simp only
  exact if_neg (fun z => by
    have := z.1
    simp [D.und] at this)
end PV
set_option Elab.async false
set_option linter.all false
set_option maxRecDepth 100000
set_option maxHeartbeats 4000000
/-! a law's end where tables of code objects grow (lambdas), called where no repr is running -/
namespace ZL
open PySem PySem.Spec PyProof.Rows L2
section
variable {P : Program} {w : World} {K : PySem.W.Frag} {mg mb : Str → Option Value} {k : Nat} {fa a : Addr} {sp : Sp} {s₁ : Shared} {vs : List Value} {ns : List Int} {cs : List (Addr × Addr)} {H : Hp}
/-- the tables among cs -/
abbrev tabsOf (cs : List (Addr × Addr)) : List Addr := cs.map (·.2)
/-- nothing but tables and the script is told -/
def OnlyT (cs : List (Addr × Addr)) (H : Hp) : Prop := ∀ b, H b = none ∨ (b ∈ tabsOf cs ∧ H b = some (.tbl #[])) ∨ ∃ o xs, H b = some (.frz o (.lst xs))
theorem ended_ofT (C : ∀ p ∈ cs, PySem.W.CodeHd s₁.heap p.1 p.2) (hO : OnlyT cs H) (hok : HOk P w H s₁.heap) {r : Except Value Flow} {s' : Shared} (h : CR CX0 [] P w H s₁ (fun v _ => v = .bl true) (fun _ _ _ => False) r s') : ended s₁ r s' := by
  match r, h with
  | .error _, h => exact False.elim h
  | .ok .next, h => exact False.elim h
  | .ok .brk, h => exact False.elim h
  | .ok .cont, h => exact False.elim h
  | .ok (.ret u), h =>
    obtain ⟨v, H', os, bare, un, hok', r', q⟩ := h
    have q' : v = .bl true := q
    subst q'
    have r2 : u = Value.bool true := r'
    have two : ∀ b o, s₁.heap.get? b = some o → s'.heap.get? b = some o ∨ (b ∈ tabsOf cs ∧ o = { cls := .none, data := .fields #[] } ∧ ∃ more : Array Value, s'.heap.get? b = some { cls := .none, data := .fields more }) := fun b o e => by
      rcases hO b with z | ⟨zm, z⟩ | ⟨ob, xs, z⟩
      · exact .inl (un.keep b o e z (fun y => nomatch y) (fun y => nomatch y))
      · have e1 : s₁.heap.get? b = some { cls := .none, data := .fields #[] } := hok b _ z
        rw [e] at e1
        obtain ⟨more, zz⟩ := un.tbls b #[] z
        exact .inr ⟨zm, Option.some.inj e1, _, hok' b _ zz⟩
      · have e1 := (hok b _ z).1
        rw [e] at e1
        exact .inl (by rw [Option.some.inj e1]; exact (hok' b _ (un.frzs b ob _ z)).1)
    refine ⟨by rw [r2], ⟨fun b o e => ?_, fun b o e => ?_⟩, os, bare⟩
    · rcases two b o e with z | ⟨zm, ze, more, z⟩
      · exact .inl z
      · subst ze
        obtain ⟨p, hp, rfl⟩ := List.mem_map.mp zm
        exact .inr (.inl ⟨((C p hp).tab e).isCodeTable, rfl, #[], more, rfl, by rw [Array.empty_append]; exact z⟩)
    · rcases two b o e with z | ⟨_, _, more, z⟩
      · exact ⟨o, z⟩
      · exact ⟨_, z⟩
theorem lawT_core (KX : K.In s₁.heap) (hns : s₁.heap.Ns mainGlobals mg) (hb : s₁.heap.Ns builtinsNs mb) (hbb : ∀ x : Str, x ≠ "__name__" → mb x = bootBuiltins x) (hlim : s₁.heap.NoLimit) (hg : s₁.gens = #[])
    (hbm : ∃ (bm : Addr) (ob : Obj), mg "__builtins__" = some (.ref bm) ∧ bm ≠ builtinsNs ∧ s₁.heap.get? bm = some ob ∧ ob.cls = .type "module" ∧ ob.dict = some builtinsNs ∧ ob.data = .plain) (C : ∀ p ∈ cs, PySem.W.CodeHd s₁.heap p.1 p.2) (hT : ∀ p ∈ cs, s₁.heap.get? p.2 = some { cls := .none, data := .fields #[] })
    (hr : Room k callerA) (F : ∀ base : Heap, K.In base → base.Ns mainGlobals mg → (∀ p ∈ cs, LamX.TabB base mg p.1 p.2) → FnRG P w K mg base CX0 k fa sp) (hO : OnlyT cs H) (hok : HOk P w H s₁.heap)
    (hK : ∀ b o, K.lookup b = some o → H b = none) (hD : ∀ b o es ep, s₁.heap.get? b = some o → o.data = .dict es ep → H b = none) (hC : ∀ b o, s₁.heap.get? b = some o → (o.cls = .type "code" ∨ o.cls = .type "module") → H b = none)
    (h : sp [.ref a] H (fun v _ => v = .bl true) fun _ _ _ => False) : codeAny (model P w) callerA (.call (.ref fa) ⟨[.ref a], []⟩) (ended s₁) s₁ := by
  have nsK : ∀ {b : Addr} {m : Str → Option Value}, s₁.heap.Ns b m → (hidT s₁.heap H).Ns b m := fun {b m} z => by
    obtain ⟨o, es, ep, e, d, r⟩ := z
    exact ⟨o, es, ep, hidT_get e (hD b o es ep e d), d, r⟩
  have hKb : K.In (hidT s₁.heap H) := fun b o e => hidT_get (KX b o e) (hK b o e)
  obtain ⟨mc, l1, l2⟩ := hlim
  have TB : ∀ p ∈ cs, LamX.TabB (hidT s₁.heap H) mg p.1 p.2 := fun p hp => by
    obtain ⟨bm, ob, b1, b2, b3, b4, b5, b6⟩ := id hbm
    obtain ⟨og, esg, epg, eg, dg, _⟩ := id hns
    have tp := hT p hp
    obtain ⟨oc, us, file, tf, flags, tg, inF, text, tt, c1, c2, c3⟩ := C p hp
    refine ⟨⟨oc, us, file, tf, flags, tg, inF, text, tt, hidT_get c1 (hC _ _ c1 (.inl c2)), c2, c3⟩, ⟨bm, ob, b1, b2, fun z => ?_, fun z => ?_, hidT_get b3 (hC _ _ b3 (.inr b4)), b4, b5, b6⟩, fun z => ?_⟩
    · rw [z, eg] at b3
      rw [Option.some.inj b3, b6] at dg
      cases dg
    · rw [z, tp] at b3
      rw [← Option.some.inj b3] at b6
      cases b6
    · rw [z, tp] at eg
      rw [← Option.some.inj eg] at dg
      cases dg
  have e0 : Env0 P w K mg (hidT s₁.heap H) callerA [] s₁ H := ⟨rfl, ⟨hKb, nsK hns, ⟨mb, nsK hb, hbb⟩, ⟨mc, nsK l1, l2⟩⟩, fun b o e => of_hidT e, Nat.le_of_eq (hidT_size _ _), trivial, fun b z => (nomatch (show b ∈ ([] : List Addr) from z)), hok, .of_eq hg⟩
  exact codeAny_mono (F _ hKb (nsK hns) TB callerA [] s₁ H [.ref a] [.ref a] _ _ rfl hr e0 (.cons rfl .nil) h) fun r s' z => ended_ofT C hO hok z
theorem law_callT (KX : K.In s₁.heap) (hns : s₁.heap.Ns mainGlobals mg) (hb : s₁.heap.Ns builtinsNs mb) (hbb : ∀ x : Str, x ≠ "__name__" → mb x = bootBuiltins x) (hlim : s₁.heap.NoLimit) (hg : s₁.gens = #[])
    (hbm : ∃ (bm : Addr) (ob : Obj), mg "__builtins__" = some (.ref bm) ∧ bm ≠ builtinsNs ∧ s₁.heap.get? bm = some ob ∧ ob.cls = .type "module" ∧ ob.dict = some builtinsNs ∧ ob.data = .plain) (C : ∀ p ∈ cs, PySem.W.CodeHd s₁.heap p.1 p.2) (hT : ∀ p ∈ cs, s₁.heap.get? p.2 = some { cls := .none, data := .fields #[] }) (nT : ∀ p ∈ cs, K.lookup p.2 = none)
    (ha : s₁.heap.get? a = some { cls := .type "list", data := .seq vs.toArray }) (hi : IntsAre vs ns) (hl : ns.length ≤ sizeLine) (hr : Room k callerA)
    (F : ∀ base : Heap, K.In base → base.Ns mainGlobals mg → (∀ p ∈ cs, LamX.TabB base mg p.1 p.2) → FnRG P w K mg base CX0 k fa sp)
    (hsp : ∀ H : Hp, (∀ p ∈ cs, H p.2 = some (.tbl #[])) → SqL K H a (ns.map V.int) → sp [.ref a] H (fun v _ => v = .bl true) fun _ _ _ => False) :
    codeAny (model P w) callerA (.call (.ref fa) ⟨[.ref a], []⟩) (ended s₁) s₁ := by
  have rv := vals_ints hi
  have isT : ∀ b ∈ tabsOf cs, s₁.heap.get? b = some { cls := .none, data := .fields #[] } ∧ K.lookup b = none := fun b hb => by
    obtain ⟨p, hp, rfl⟩ := List.mem_map.mp hb
    exact ⟨hT p hp, nT p hp⟩
  have aT : a ∉ tabsOf cs := fun z => by
    have q := (isT a z).1
    rw [ha] at q
    have := congrArg Obj.cls (Option.some.inj q)
    cases this
  let o : Obj := { cls := .type "list", data := .seq vs.toArray }
  -- the script is told or not
  have go : ∀ H : Hp, (∀ b ∈ tabsOf cs, H b = some (.tbl #[])) → (∀ b, b ∉ tabsOf cs → b ≠ a → H b = none) → (H a = none ∨ (H a = some (.frz o (.lst (ns.map V.int))) ∧ K.lookup a = none)) → SqL K H a (ns.map V.int) → codeAny (model P w) callerA (.call (.ref fa) ⟨[.ref a], []⟩) (ended s₁) s₁ := fun H h1 h2 h3 h4 => by
    have off : ∀ b, (∀ u, s₁.heap.get? b = some u → u.cls ≠ .none ∧ (b = a → False)) → (∃ u, s₁.heap.get? b = some u) → H b = none := fun b hb hu => by
      obtain ⟨u, hu⟩ := hu
      refine h2 b (fun z => ?_) fun z => (hb u hu).2 z
      have q := (isT b z).1
      rw [hu] at q
      exact (hb u hu).1 (by rw [Option.some.inj q])
    refine lawT_core (H := H) (cs := cs) KX hns hb hbb hlim hg hbm C hT hr F (fun b => ?_) (fun b u z => ?_) (fun b u z => ?_) (fun b u es ep e d => ?_) (fun b u e d => ?_) (hsp H (fun p hp => h1 _ (List.mem_map.mpr ⟨p, hp, rfl⟩)) h4)
    · by_cases q : b ∈ tabsOf cs
      · exact .inr (.inl ⟨q, h1 b q⟩)
      · by_cases q2 : b = a
        · subst q2
          rcases h3 with z | ⟨z, _⟩
          · exact .inl z
          · exact .inr (.inr ⟨_, _, z⟩)
        · exact .inl (h2 b q q2)
    · by_cases q : b ∈ tabsOf cs
      · rw [h1 b q] at z
        have z' := Option.some.inj z
        subst z'
        exact (isT b q).1
      · by_cases q2 : b = a
        · subst q2
          rcases h3 with y | ⟨y, _⟩
          · rw [y] at z
            cases z
          · rw [y] at z
            have z' := Option.some.inj z
            subst z'
            exact ⟨ha, by rw [List.length_map]; exact hl, vs, _, rv, ha⟩
        · rw [h2 b q q2] at z
          cases z
    · by_cases q : b ∈ tabsOf cs
      · rw [(isT b q).2] at z
        cases z
      · by_cases q2 : b = a
        · subst q2
          rcases h3 with y | ⟨_, y⟩
          · exact y
          · rw [y] at z
            cases z
        · exact h2 b q q2
    · by_cases q : b ∈ tabsOf cs
      · rw [(isT b q).1] at e
        rw [← Option.some.inj e] at d
        cases d
      · refine h2 b q fun z => ?_
        rw [z, ha] at e
        rw [← Option.some.inj e] at d
        cases d
    · by_cases q : b ∈ tabsOf cs
      · rw [(isT b q).1] at e
        rw [← Option.some.inj e] at d
        rcases d with d | d <;> cases d
      · refine h2 b q fun z => ?_
        rw [z, ha] at e
        rw [← Option.some.inj e] at d
        rcases d with d | d <;> simp [o] at d
  cases hk : K.lookup a with
  | some u =>
    have e := KX a u hk
    rw [ha] at e
    have e' := (Option.some.inj e).symm
    subst e'
    refine go (fun b => if b ∈ tabsOf cs then some (.tbl #[]) else none) (fun b q => if_pos q) (fun b q _ => if_neg q) (.inl (if_neg aT)) (.inr ⟨_, vs.toArray, _, hk, rfl, rfl, rfl, ?_, ?_⟩)
    · rw [List.size_toArray, hi.length]
      exact hl
    · simpa using rv
  | none =>
    refine go (fun b => if b = a then some (.frz o (.lst (ns.map V.int))) else if b ∈ tabsOf cs then some (.tbl #[]) else none) (fun b q => ?_) (fun b q1 q2 => ?_) (.inr ⟨if_pos rfl, hk⟩) (.inl (.inr ⟨o, if_pos rfl⟩))
    · exact (if_neg fun z => aT (by rw [← z]; exact q)).trans (if_pos q)
    · exact (if_neg q2).trans (if_neg q1)
/-- a law with lambdas, called where no repr is running -/
theorem walk_ofT {l : PySem.W.OpenLaw} {n k : Nat} {q : Program} {loose : List Str} {XP : (Str → Option Value) → Heap → Prop} {YP : World → Heap → Prop} {d : DefRec}
    (hn : l.most = some n) (hn2 : n ≤ sizeLine) (hdf : d.params.defaults = []) (hr : Room k callerA)
    (F : ∀ (w : World) (mg : Str → Option Value) (fa : Addr) (h : Heap), YP w h → h.Ns mainGlobals mg → mg d.name = some (.ref fa) →
      ∃ (K : PySem.W.Frag) (cs : List (Addr × Addr)) (sp : Sp), K.In h ∧ (∀ p ∈ cs, PySem.W.CodeHd h p.1 p.2 ∧ h.get? p.2 = some { cls := .none, data := .fields #[] } ∧ K.lookup p.2 = none) ∧
        (∀ (H : Hp) (a : Addr) (ns : List Int), ns.length ≤ n → (∀ p ∈ cs, H p.2 = some (.tbl #[])) → SqL K H a (ns.map V.int) → sp [.ref a] H (fun v _ => v = .bl true) fun _ _ _ => False) ∧
        ∀ base : Heap, K.In base → base.Ns mainGlobals mg → (∀ p ∈ cs, LamX.TabB base mg p.1 p.2) → FnRG l.prog w K mg base CX0 k fa sp) :
    PySem.W.WalkO q loose XP YP l.row.toRowW d [] (fun f vs => PySem.call f vs) := by
  refine Att.attach_call hn hdf fun w s₀ s₁ mg mb fa o pm cd doc a vs ns G Y ho hd hcd hmg hobj hi hlen hg => ?_
  obtain ⟨K, cs, sp, KX, hcs, hsp, hF⟩ := F w mg fa _ Y G.T.g hmg
  exact law_callT KX G.T.g G.T.b G.T.builtins G.T.nolimit hg G.T.bmain (fun p hp => (hcs p hp).1) (fun p hp => (hcs p hp).2.1) (fun p hp => (hcs p hp).2.2) hobj hi (Nat.le_trans hlen hn2) hr hF fun H hH hS => hsp H a ns hlen hH hS
end
end ZL
set_option Elab.async false
set_option linter.all false
set_option maxRecDepth 100000
set_option maxHeartbeats 4000000
namespace PV
open PySem PySem.Spec PyProof.Rows L2 ZL
/-- what a law promises: nothing is raised, True comes back -/
def spEnd (K : PySem.W.Frag) (F : Fn) : Sp := fun vs H Q _ => spF K F vs H Q fun _ _ _ => False
theorem end_of {P : Program} {w : World} {K : PySem.W.Frag} {mg : Str → Option Value} {base : Heap} {k : Nat} {f : Addr} {F : Fn} (h : FnFG P w K mg base k f F) : FnRG P w K mg base CX0 k f (spEnd K F) := fun A outer s H us vs Q E hgd hr e0 r z =>
  codeAny_mono (h A outer s H us vs Q (fun _ _ _ => False) hgd hr e0 r z) fun r s' c => by
    match r, c with
    | .ok (.ret u), c => exact c
    | .error e, c =>
      obtain ⟨_, _, _, _, _, _, _, _, _, _, _, _, hE⟩ := c
      exact hE.elim
/-- at a script, in an empty store, with the tables told -/
theorem end_atT {K : PySem.W.Frag} {F : Fn} {H : Hp} {a : Addr} {ns : List Int} {S' : Sto} (hS : SqL K H a (ns.map V.int)) (hT : ∀ p ∈ tbs K, H p.1 = some (.tbl #[])) (h : F [.src (ns.map .int)] [] = .ok (.bl true) S') : spEnd K F [.ref a] H (fun v _ => v = .bl true) fun _ _ _ => False := by
  have hS2 : ∃ F0 : Hp, SqL K F0 a (ns.map V.int) ∧ (∀ b o, F0 b = some o → H b = some o) ∧ ∀ b o, F0 b = some o → NoT o := by
    rcases hS with (q | ⟨o, q⟩) | q
    · exact ⟨upd (fun _ => none) a (.lst _), .inl (.inl upd_same), (fun b o e => by
        by_cases z : b = a
        · rw [z, upd_same] at e; rw [z, q, ← e]
        · rw [upd_ne z] at e; cases e), (fun b o e => by
        by_cases z : b = a
        · rw [z, upd_same] at e; cases e; intro _ y; cases y
        · rw [upd_ne z] at e; cases e)⟩
    · exact ⟨upd (fun _ => none) a (.frz o (.lst _)), .inl (.inr ⟨o, upd_same⟩), (fun b o e => by
        by_cases z : b = a
        · rw [z, upd_same] at e; rw [z, q, ← e]
        · rw [upd_ne z] at e; cases e), (fun b o e => by
        by_cases z : b = a
        · rw [z, upd_same] at e; cases e; intro _ y; cases y
        · rw [upd_ne z] at e; cases e)⟩
    · exact ⟨fun _ => none, .inr q, (fun b o e => by cases e), (fun b o e => by cases e)⟩
  obtain ⟨F0, q1, q2, q3⟩ := hS2
  refine ⟨[.src (ns.map .int)], [], ⟨F0, fun _ => none⟩, ⟨q2, (fun n c h => by simp at h), fun n a h => (by cases h), fun n m a h => (by cases h), fun n a h => (by cases h), q3, fun p hp => LamX.TabS.nil (hT p hp)⟩, .cons (.src q1 (Rps.ints ns)) .nil, ?_⟩
  rw [h]
  intro G' H' v _ _ r
  cases r
  rfl
end PV
set_option Elab.async false
set_option linter.all false
set_option maxRecDepth 100000
set_option maxHeartbeats 4000000
/-! a head's Hook that leaves the tables of some defs out of the written part; defs that hold lambdas -/
namespace ZH
open PySem PySem.W L2
/-- the code object of the def at f, and its table -/
def codeAt (K : Frag) (f : Addr) : Option (Addr × Addr) := match K.lookup f with
  | some ⟨_, _, .func fd, _⟩ => (match fd.code with
    | .ref c => (match K.lookup c with
      | some ⟨_, _, .fields vs, _⟩ => (match (vs[11]? : Option Value) with
        | some (.ref P) => some (c, P)
        | _ => none)
      | _ => none)
    | _ => none)
  | _ => none
def tabA (K : Frag) (lams : List Str) : List Addr := lams.filterMap fun x => (codeAt K (He.ga K x)).map fun p => p.2
def dropT (lams : List Str) (K : Frag) : Frag := K.filter fun p => !((tabA K lams).contains p.1)
abbrev lamQ (x : Str) : Str := x ++ ".<locals>." ++ "<lambda>"
def tab1 (Ka K : Frag) (x : Str) : Bool := match codeAt K (He.ga K x) with
  | some (c, P) => codeHdIn K c P && ((K.lookup P).isNone && ((match Ka.lookup P with
    | some ⟨.none, none, .fields ⟨[]⟩, ⟨[]⟩⟩ => true
    | _ => false) && ((PV.tbs K).any (fun p => decide (p = (P, lamQ x))) && (PV.tbs K).all fun p => !decide (p.1 = P) || decide (p.2 = lamQ x))))
  | none => false
def tabsB (lams : List Str) (Ka K : Frag) : Bool := lams.all (tab1 Ka K) && (PV.tbs K).all fun p => lams.any fun x => decide ((codeAt K (He.ga K x)).map (fun p => p.2) = some p.1)
def obsL (lams : List Str) (chk : Frag → Bool) (fn : List He5.DefA) (Ka : Frag) : He.AlD × Bool := (obsZ chk fn (dropT lams Ka), tabsB lams Ka (dropT lams Ka))
def SaysL (lams : List Str) (chk : Frag → Bool) (fn : List He5.DefA) (Ka : Frag) : Prop := obsL lams chk fn Ka = (He5.valA fn, true)
def obsLG (n : Nat) (lams : List Str) (chk : Frag → Bool) (fn : List He5.DefA) (g : Addr → Option Obj) : He.AlD × Bool := obsL lams chk fn (He.frG g (He5.asA g n))
def hookL (n : Nat) (lams : List Str) (chk : Frag → Bool) (fn : List He5.DefA) : PySem.W.Hook where
  α := He.AlD × Bool
  obs := fun s => obsLG n lams chk fn s.heap.get?
  val := fun _ => ((He5.valA fn, true) : He.AlD × Bool)
  says := fun _ h => ∃ K : Frag, K.In h ∧ SaysL lams chk fn K
  of := fun _ _ e => ⟨_, He.frG_in, e⟩
  keeps := fun _ _ _ z k => z.elim fun K q => ⟨K, Frag.In.keeps q.1 k, q.2⟩
section
variable {lams : List Str} {chk : Frag → Bool} {fn : List He5.DefA} {Ka K : Frag} {h : Heap}
theorem SaysL.z (c : SaysL lams chk fn Ka) : SaysZ chk fn (dropT lams Ka) := congrArg (fun z : He.AlD × Bool => z.1) c
theorem SaysL.t (c : SaysL lams chk fn Ka) : tabsB lams Ka (dropT lams Ka) = true := congrArg (fun z : He.AlD × Bool => z.2) c
theorem lookup_filter {f : Addr → Bool} : ∀ {l : Frag} {a : Addr} {o : Obj}, (l.filter fun p => f p.1).lookup a = some o → l.lookup a = some o
  | [], _, _, e => e
  | (b, u) :: l, a, o, e => by
    by_cases hf : f b = true
    · rw [List.filter_cons_of_pos (by exact hf)] at e
      rw [List.lookup_cons] at e ⊢
      cases q : a == b with
      | true => rw [q] at e; exact e
      | false => rw [q] at e; exact lookup_filter e
    · rw [List.filter_cons_of_neg (by exact hf)] at e
      have r := lookup_filter e
      rw [List.lookup_cons]
      split
      · rename_i q
        have ab : a = b := eq_of_beq q
        exfalso
        have : ∀ {l : Frag} {o : Obj}, (l.filter fun p => f p.1).lookup a = some o → f a = true := by
          intro l
          induction l with
          | nil => intro o e; cases e
          | cons p l ih =>
            intro o e
            by_cases hp : f p.1 = true
            · rw [List.filter_cons_of_pos (by exact hp), List.lookup_cons] at e
              split at e
              · rename_i q2; rw [eq_of_beq q2]; exact hp
              · exact ih e
            · rw [List.filter_cons_of_neg (by exact hp)] at e
              exact ih e
        exact hf (ab ▸ this e)
      · exact r
theorem dropT_in (X : Ka.In h) : (dropT lams Ka).In h := fun a o e => X a o (lookup_filter (f := fun a => !((tabA Ka lams).contains a)) e)
/-- what is known of the def x that holds lambdas -/
structure LamAt (K : Frag) (h : Heap) (x : Str) (c P : Addr) : Prop where
  code : codeAt K (He.ga K x) = some (c, P)
  hd : CodeHd h c P
  off : K.lookup P = none
  tab : h.get? P = some { cls := .none, data := .fields #[] }
  mem : (P, lamQ x) ∈ PV.tbs K
  one : ∀ p ∈ PV.tbs K, p.1 = P → p.2 = lamQ x
theorem tabs_at (XK : K.In h) (Xa : Ka.In h) (t : tabsB lams Ka K = true) {x : Str} (hx : x ∈ lams) : ∃ c P, LamAt K h x c P := by
  have z := List.all_eq_true.mp (Bool.and_eq_true_iff.mp t).1 x hx
  unfold tab1 at z
  split at z
  · rename_i c P hc
    obtain ⟨z1, z⟩ := Bool.and_eq_true_iff.mp z
    obtain ⟨z2, z⟩ := Bool.and_eq_true_iff.mp z
    obtain ⟨z3, z⟩ := Bool.and_eq_true_iff.mp z
    obtain ⟨z4, z5⟩ := Bool.and_eq_true_iff.mp z
    refine ⟨c, P, hc, codeHd_of_K XK z1, by simpa using z2, ?_, ?_, fun p hp e => ?_⟩
    · split at z3
      · rename_i q
        exact Xa _ _ q
      · cases z3
    · obtain ⟨p, hp, e⟩ := List.any_eq_true.mp z4
      rw [of_decide_eq_true e] at hp
      exact hp
    · have y := List.all_eq_true.mp z5 p hp
      rw [decide_eq_true e] at y
      exact of_decide_eq_true (by simpa using y)
  · cases z
theorem tabs_all (t : tabsB lams Ka K = true) {p : Addr × Str} (hp : p ∈ PV.tbs K) : ∃ x ∈ lams, ∃ c, codeAt K (He.ga K x) = some (c, p.1) := by
  obtain ⟨x, hx, e⟩ := List.any_eq_true.mp (List.all_eq_true.mp (Bool.and_eq_true_iff.mp t).2 p hp)
  obtain ⟨⟨c, P⟩, e1, e2⟩ := Option.map_eq_some_iff.mp (of_decide_eq_true e)
  have e3 : P = p.1 := e2
  subst e3
  exact ⟨x, hx, c, e1⟩
end
end ZH
namespace PV
open PySem PySem.Spec PyProof.Rows L2 ZL
section
variable {P : Program} {w : World} {K : PySem.W.Frag} {mg : Str → Option Value} {base : Heap} {x qual : Str} {st : Stmt} {kws : List (Str × V)} {f : Addr} {fd : FuncData} {N ps : List Str} {j : Nat} {b : MS}
end
section
variable {X : Cx} {Ng lams : List Str} {x a y : Str} {st : Stmt} {g fy : Addr} {fd : FuncData} {kws : List (Str × V)} {k : Nat} {params : Arguments} {body : Expr} {scope : Scope} {m : ME} {h : Hrd} {p lpos pos : Pos}
end
end PV
set_option Elab.async false
set_option linter.all false
set_option maxRecDepth 100000
set_option maxHeartbeats 4000000
/-! an int compared with an instance on its right; instances that are called -/
namespace ZL
open PySem PySem.Spec PyProof.Rows L2
section
open PySem.W
variable {prog : Program} {w : World} {A : Around} {E : Value → Shared → Prop} {s : Shared} {K : Frag} {x C f dx : Addr} {od : Option Obj} {id : String} {B : Builtin} {i : Int} {t : Tok} {Q : Value → Shared → Prop} {op : CmpOp}
end
end ZL
namespace PV
open PySem PySem.Spec PyProof.Rows L2 ZL
section
variable {X : Cx} {j : Nat} {c : String} {F : Fn} {g : G2} {f : Addr}
end
theorem isFn_ty {K : PySem.W.Frag} {v : Value} (h : PySem.W.isFn K v = true) : PySem.W.typeIn K v = some (.type "function") := by
  unfold PySem.W.isFn at h
  simpa using h
/-- a, b, c = x, y, z, plain names -/
def sPar3 (i j l : Nat) (ms : MA) : MS := fun ρ S => (ms ρ S).bind fun ds S1 => match ds with
  | [a, b, c] => .ok (.nx (((ρ.set i (some a)).set j (some b)).set l (some c))) S1
  | _ => .no
theorem qs_par3 {X : Cx} (i j l : Nat) {x y z : Str} {a b c : Expr} {ms : MA} {px py pz pt pos : Pos} {kt k2 pt2} (hc : X.calm = true) (ha : QA X [a, b, c] ms) (hN : X.N.Nodup) (hi : X.N[i]? = some x := by rfl) (hj : X.N[j]? = some y := by rfl) (hl : X.N[l]? = some z := by rfl) (hij : i ≠ j := by decide) (hil : i ≠ l := by decide) (hjl : j ≠ l := by decide)
    (hx : X.env.scope.names.lookup x = some .local := by rfl) (hy : X.env.scope.names.lookup y = some .local := by rfl) (hz : X.env.scope.names.lookup z = some .local := by rfl)
    (hw : swappedStores [.Tuple [.Name x px, .Name y py, .Name z pz] kt pt] (.Tuple [a, b, c] k2 pt2) X.env = pure (some [x, y, z]) := by rfl)
    (hs : swapsWithSole [.Tuple [.Name x px, .Name y py, .Name z pz] kt pt] (.Tuple [a, b, c] k2 pt2) pos.line X.env = pure false := by rfl) :
    QS X (.Assign [.Tuple [.Name x px, .Name y py, .Name z pz] kt pt] (.Tuple [a, b, c] k2 pt2) pos) (sPar3 i j l ms) := qs_of (ps_par3 hc hN hi hj hl hij hil hjl hx hy hz ha hw hs) fun ρ S G σ H D sm re z => by
  refine ⟨ρ, S, G, sm, re, (satS.bind z).imp fun vs H1 w => ?_⟩
  obtain ⟨ds, S1, G1, le1, sm1, r1, q1⟩ := w
  match ds, r1, q1 with
  | [d, e, f], .cons (v := v1) rv (.cons (v := v2) rw' (.cons (v := v3) ru .nil)), q1 => exact ⟨v1, v2, v3, rfl, q1 G1 H1 _ .refl sm1 ((((re.mono le1.le).set i rv).set j rw').set l ru)⟩
  | [], _, q1 => exact q1.elim
  | [_], _, q1 => exact q1.elim
  | [_, _], _, q1 => exact q1.elim
  | _ :: _ :: _ :: _ :: _, _, q1 => exact q1.elim
end PV
set_option Elab.async false
set_option linter.all false
set_option maxRecDepth 100000
set_option maxHeartbeats 4000000
/-! x + y of two lists, to be written -/
namespace PV
open PySem PySem.Spec PyProof.Rows L2 ZL RZ
end PV
set_option Elab.async false
set_option linter.all false
set_option maxRecDepth 100000
set_option maxHeartbeats 4000000
/-! the tables of the defs that hold lambdas, at a law's end -/
namespace PV
open PySem PySem.Spec PyProof.Rows L2 ZL
def csOf (K : PySem.W.Frag) (lams : List Str) : List (Addr × Addr) := lams.filterMap fun x => ZH.codeAt K (He.ga K x)
section
variable {Ka K : PySem.W.Frag} {lams : List Str} {h : Heap}
theorem csOf_mem {p : Addr × Addr} (hp : p ∈ csOf K lams) : ∃ x ∈ lams, ZH.codeAt K (He.ga K x) = some p := List.mem_filterMap.mp hp
theorem csOf_all (X : K.In h) (Xa : Ka.In h) (t : ZH.tabsB lams Ka K = true) : ∀ p ∈ csOf K lams, PySem.W.CodeHd h p.1 p.2 ∧ h.get? p.2 = some { cls := .none, data := .fields #[] } ∧ K.lookup p.2 = none := fun p hp => by
  obtain ⟨x, hx, e⟩ := csOf_mem hp
  obtain ⟨c, q, L⟩ := ZH.tabs_at X Xa t hx
  have ep : p = (c, q) := Option.some.inj (e.symm.trans L.code)
  subst ep
  exact ⟨L.hd, L.tab, L.off⟩
theorem csOf_told (t : ZH.tabsB lams Ka K = true) {H : Hp} (hH : ∀ p ∈ csOf K lams, H p.2 = some (.tbl #[])) : ∀ p ∈ tbs K, H p.1 = some (.tbl #[]) := fun p hp => by
  obtain ⟨x, hx, c, e⟩ := ZH.tabs_all t hp
  exact hH (c, p.1) (List.mem_filterMap.mpr ⟨x, hx, e⟩)
end
end PV
set_option Elab.async false
set_option linter.all false
set_option maxRecDepth 100000
set_option maxHeartbeats 4000000
/-! dicts by texts, to be written: {"x": e, ..}, d["x"], d["x"] = e -/
namespace PV
open PySem PySem.Spec PyProof.Rows L2 ZL RZ
def esG (es : List (Str × D)) (z : Str) : Option D := (es.find? fun p => decide (p.1 = z)).map (·.2)
def esP (es : List (Str × D)) (z : Str) (d : D) : List (Str × D) := if (es.any fun p => decide (p.1 = z)) = true then es.map (fun p => if p.1 = z then (p.1, d) else p) else es ++ [(z, d)]
section
variable {K : PySem.W.Frag} {G : Gh} {es : List (Str × D)} {kvs : List (Key × V)}
theorem Rpk.get (r : Rpk K G es kvs) {z : Str} {d : D} (h : esG es z = some d) : ∃ v, valV kvs (.inr z) = some v ∧ Rp K G d v := by
  induction r with
  | nil => cases h
  | @cons x d' v es kvs hv t ih =>
    unfold esG at h
    rw [List.find?_cons] at h
    by_cases q : x = z
    · rw [decide_eq_true q] at h
      cases h
      exact ⟨v, valV_pos (by rw [q]), hv⟩
    · rw [decide_eq_false q] at h
      obtain ⟨v', h1, h2⟩ := ih h
      refine ⟨v', ?_, h2⟩
      have ne : ¬ ((Sum.inr x : Key) = .inr z) := fun e => q (Sum.inr.inj e)
      unfold valV at h1 ⊢
      rw [List.find?_cons, decide_eq_false ne]
      exact h1
theorem Rpk.any (r : Rpk K G es kvs) (z : Str) : (kvs.any fun kv => decide (kv.1 = (.inr z : Key))) = es.any fun p => decide (p.1 = z) := by
  induction r with
  | nil => rfl
  | @cons x d v es kvs hv t ih =>
    rw [List.any_cons, List.any_cons, ih]
    congr 1
    have : ((Sum.inr x : Key) = .inr z) ↔ x = z := ⟨fun e => Sum.inr.inj e, fun e => by rw [e]⟩
    exact decide_eq_decide.mpr this
theorem Rpk.app (r : Rpk K G es kvs) {z : Str} {d : D} {v : V} (h : Rp K G d v) : Rpk K G (es ++ [(z, d)]) (kvs ++ [(.inr z, v)]) := by
  induction r with
  | nil => exact .cons h .nil
  | cons hv t ih => exact .cons hv ih
theorem Rpk.over (r : Rpk K G es kvs) {z : Str} {d : D} {v : V} (h : Rp K G d v) : Rpk K G (es.map fun p => if p.1 = z then (p.1, d) else p) (kvs.map fun kv => if kv.1 = (.inr z : Key) then (kv.1, v) else kv) := by
  induction r with
  | nil => exact .nil
  | @cons x d' v' es kvs hv t ih =>
    rw [List.map_cons, List.map_cons]
    by_cases q : x = z
    · subst q
      rw [if_pos rfl, if_pos rfl]
      exact .cons h ih
    · rw [if_neg q, if_neg fun e => q (Sum.inr.inj e)]
      exact .cons hv ih
theorem Rpk.put (r : Rpk K G es kvs) {z : Str} {d : D} {v : V} (h : Rp K G d v) : Rpk K G (esP es z d) (putK kvs (.inr z) v) := by
  unfold esP putK
  rw [r.any]
  split
  · exact r.over h
  · exact r.app h
theorem Rpk.keys (r : Rpk K G es kvs) : kvs.map (·.1) = es.map fun p => (.inr p.1 : Key) := by
  induction r with
  | nil => rfl
  | cons hv t ih => rw [List.map_cons, List.map_cons, ih]
theorem Rpk.len (r : Rpk K G es kvs) : kvs.length = es.length := by
  induction r with
  | nil => rfl
  | cons hv t ih => rw [List.length_cons, List.length_cons, ih]
theorem merge_nodup : ∀ (more acc : List (Key × V)), (acc.map (·.1) ++ more.map (·.1)).Nodup → mergeK acc more = acc ++ more
  | [], acc, _ => by simp [mergeK]
  | (k, v) :: more, acc, h => by
    have e : putK acc k v = acc ++ [(k, v)] := by
      unfold putK
      rw [if_neg]
      intro z
      obtain ⟨p, hp, e⟩ := List.any_eq_true.mp z
      rw [List.map_cons, List.nodup_append] at h
      exact h.2.2 p.1 (List.mem_map_of_mem hp) k List.mem_cons_self (of_decide_eq_true e)
    show mergeK (putK acc k v) more = _
    rw [e, merge_nodup more (acc ++ [(k, v)]) (by simpa using h)]
    simp
end
def dicL : List (Str × ME) → Ev → Sto → Out (List (Str × D))
  | [], _, S => .ok [] S
  | (z, m) :: r, ρ, S => (m ρ S).bind fun d S1 => (dicL r ρ S1).bind fun es S2 => .ok ((z, d) :: es) S2
def dicQ (n : Nat) (es : List (Str × D)) (S2 : Sto) : Out D := match S2[n]? with
  | some (.dic []) => if es.length ≤ 15 ∧ (es.map (·.1)).Nodup then .ok (.loc n) (S2.set n (.dic es)) else .no
  | _ => .no
def dicM (kms : List (Str × ME)) : ME := fun ρ S => (dicL kms ρ (S ++ [.dic []])).bind (dicQ S.length)
structure QPM (X : Cx) (pos : Pos) (keys : List (Option Expr)) (values : List Expr) (kms : List (Str × ME)) : Prop where
  run : ∃ trs, PPs X pos keys values trs ∧ ∀ ρ S G σ H (Q : List (V × V) → Hp → Prop), Sm X.K G S H → Re X.K G ρ σ → sat X (Rpk X.K) G H (dicL kms ρ S) (fun kvs H' => Q (kvs.map fun kv => (kV kv.1, kv.2)) H') → tPairs trs σ H Q
section
variable {X : Cx}
theorem qpm_nil {pos : Pos} : QPM X pos [] [] [] := ⟨[], pps_nil, fun ρ S G σ H Q sm re h => h G H [] .refl sm .nil⟩
theorem qpm_cons {pos kp : Pos} {z : Str} {j : Nat} {e : Expr} {m : ME} {ks : List (Option Expr)} {vs : List Expr} {kms : List (Str × ME)} (h : QE X e m) (r : QPM X pos ks vs kms) : QPM X pos (some (.Constant (.str z) j kp) :: ks) (e :: vs) ((z, m) :: kms) := by
  obtain ⟨trs, h1, h2⟩ := r
  refine ⟨_, pps_cons pe_str h h1, fun ρ S G σ H Q sm re q => ?_⟩
  refine ⟨ρ, S, G, sm, re, (sat.bind q).imp fun v H1 w => ?_⟩
  obtain ⟨d, S1, G1, le1, sm1, r1, q1⟩ := w
  refine h2 ρ S1 G1 σ H1 _ sm1 (re.mono le1.le) ((sat.bind q1).imp fun kvs H2 w => ?_)
  obtain ⟨es, S2, G2, le2, sm2, r2, q2⟩ := w
  exact q2 G2 H2 ((.inr z, v) :: kvs) .refl sm2 (.cons (r1.mono le2.le) r2)
theorem qe_dicM {pos : Pos} {keys : List (Option Expr)} {values : List Expr} {kms : List (Str × ME)} (h : QPM X pos keys values kms) (hall : keys.all (·.isSome) = true := by rfl) (hl : keys.length = values.length := by rfl) (h0 : keys ≠ [] := by simp) (h15 : keys.length ≤ 15 := by decide) :
    QE X (.Dict keys values pos) (dicM kms) := by
  obtain ⟨trs, h1, h2⟩ := h
  refine qe_of (pe_disp h1 hall hl h0 h15) fun ρ S G σ H Q sm re z p hp => ?_
  have sm1 : Sm X.K (G.new S.length p) (S ++ [.dic []]) (upd H p (.dK [])) := sm.new hp ⟨[], upd_same, .nil⟩
  have st1 : Stp G H (G.new S.length p) (upd H p (.dK [])) := Stp.cell sm hp
  refine h2 ρ _ _ σ _ _ sm1 (re.mono st1.le) ((sat.bind (z.mono st1)).imp fun kvs H2 w => ?_)
  obtain ⟨es, S2, G2, le2, sm2, r2, q2⟩ := w
  unfold dicQ at q2
  split at q2
  · rename_i hn
    split at q2
    · rename_i nd
      have hf : G2.f S.length = some p := le2.le.2 _ _ Gh.new_at
      obtain ⟨_, kv0, h3, h4⟩ := sm2.addr hn (by simp) hf
      cases h4
      refine ⟨h3, kvs, rfl, ?_, ?_⟩
      · rw [r2.len]
        exact nd.1
      · have em : mergeK [] kvs = kvs := merge_nodup kvs [] (by
          rw [List.map_nil, List.nil_append, r2.keys]
          have := nd.2
          rw [show (es.map fun p => (Sum.inr p.1 : Key)) = (es.map (·.1)).map Sum.inr by simp]
          exact List.Pairwise.map _ (fun a b ne e => ne (Sum.inr.inj e)) this)
        rw [em]
        exact q2 G2 _ _ (Stp.write hf) (sm2.write hn (by simp) hf ⟨kvs, upd_same, r2⟩) (.loc hf)
    · exact q2.elim
  · exact q2.elim
theorem Sm.dic {K : PySem.W.Frag} {G : Gh} {S : Sto} {H : Hp} (sm : Sm K G S H) {n : Nat} {es : List (Str × D)} (h : S[n]? = some (.dic es)) {v : V} (r : Rp K G (.loc n) v) : ∃ a kvs, v = .ref a ∧ G.f n = some a ∧ H a = some (.dK kvs) ∧ Rpk K G es kvs := by
  cases r with
  | @loc n a hf =>
    obtain ⟨_, kvs, h1, h2⟩ := sm.addr h (by simp) hf
    exact ⟨a, kvs, rfl, hf, h1, h2⟩
end
end PV
set_option Elab.async false
set_option linter.all false
set_option maxRecDepth 100000
set_option maxHeartbeats 4000000
/-! own operators beside values of built-in types: x op v, v op x -/
namespace ZL
open PySem PySem.Spec PyProof.Rows L2
section
open PySem.W
variable {prog : Program} {w : World} {A : Around} {E : Value → Shared → Prop} {s : Shared} {K : Frag} {x C f : Addr} {od : Option Obj} {ox : Obj} {nm : String} {Q : Value → Shared → Prop} {u : Value} {T : String} {fo ro : Option Value}
end
end ZL
namespace PV
open PySem PySem.Spec PyProof.Rows L2 ZL
end PV
set_option Elab.async false
set_option linter.all false
set_option maxRecDepth 100000
set_option maxHeartbeats 4000000
/-! True op x, x of an own class; own operators on all sides -/
namespace ZL
open PySem PySem.Spec PyProof.Rows L2
section
open PySem.W
variable {prog : Program} {w : World} {A : Around} {E : Value → Shared → Prop} {s : Shared} {K : Frag} {x C f dx : Addr} {od : Option Obj} {nm id : String} {B : Builtin} {y : Bool} {Q : Value → Shared → Prop}
end
end ZL
namespace PV
open PySem PySem.Spec PyProof.Rows L2 ZL
section
variable {X : Cx} {j : Nat} {c : String} {f f' : Addr} {F : Fn} {g : G2}
end
end PV
set_option Elab.async false
set_option linter.all false
set_option maxRecDepth 100000
set_option maxHeartbeats 4000000
/-! repr of tuples, and of lists, in which {} may stand -/
namespace PV
open PySem PySem.Spec PyProof.Rows L2 ZL
section
variable {X : Cx} {pins : List (Addr × Obj)} {σ : L2.St} {H : Hp} {s : Shared} {G : Gh}
end
end PV
set_option Elab.async false
set_option linter.all false
set_option maxRecDepth 100000
set_option maxHeartbeats 4000000
/-! x in (y, z, ..) where items are data of any depth -/
namespace PV
open PySem PySem.Spec PyProof.Rows L2 ZL
section
variable {X : Cx} {g : G2}
end
end PV
set_option Elab.async false
set_option linter.all false
set_option maxRecDepth 100000
set_option maxHeartbeats 4000000
/-! [x] != [y] of lists of one instance each, by an own __eq__ that says yes -/
namespace GQN
open PySem PySem.SeqAt PyProof.Rows
open AutoSeq1 (wpAny_loadPart')
open MeetsSeq MeetsSeq2 MeetsSeq3 SeqRoads2
open GQ
section
variable {prog : Program} {w : World} {A : Around} {R : Result → Shared → Prop}
end
section
variable {prog : Program} {w : World} {A : Around} {E : Value → Shared → Prop} {s : Shared}
end
end GQN
namespace PV
open PySem PySem.Spec PyProof.Rows L2 ZL
end PV
set_option Elab.async false
set_option linter.all false
set_option maxRecDepth 100000
set_option maxHeartbeats 4000000
/-! sorted(xs), a list of ints -/
namespace PV
open PySem PySem.Spec PyProof.Rows L2 ZL
end PV
set_option Elab.async false
set_option linter.all false
set_option maxRecDepth 100000
set_option maxHeartbeats 4000000
/-! an own operator beside an instance of another class that has no such method -/
namespace ZL
open PySem PySem.Spec PyProof.Rows L2
section
open PySem.W
variable {prog : Program} {w : World} {A : Around} {E : Value → Shared → Prop} {s : Shared} {K : Frag} {x C C2 f : Addr} {od : Option Obj} {ox : Obj} {nm : String} {Q : Value → Shared → Prop} {u : Value}
end
end ZL
namespace PV
open PySem PySem.Spec PyProof.Rows L2 ZL
end PV
set_option Elab.async false
set_option linter.all false
set_option maxRecDepth 100000
set_option maxHeartbeats 4000000
/-! P58: C(e, .., k = v, ..): values by position and by name. -/
namespace PV
open PySem PySem.Spec PyProof.Rows L2
section
variable {X : Cx} {c : String} {F : Fn} {j n : Nat} {f : Addr} {ms ms2 : MA} {p pos : Pos} {e : Expr} {es : List Expr} {kws : List Keyword} {ks : List Str}
end
end PV
set_option Elab.async false
set_option linter.all false
set_option maxRecDepth 100000
set_option maxHeartbeats 4000000
/-! P59: an instance that was written and is written no more. -/
namespace PV
open PySem PySem.Spec PyProof.Rows L2
end PV
set_option Elab.async false
set_option linter.all false
set_option maxRecDepth 100000
set_option maxHeartbeats 4000000
/-! P62: a def whose first row is super().m(..). -/
namespace PV
open PySem PySem.Spec PyProof.Rows L2 ZL
/-- the scope of a def that says super() -/
structure SupS (N P : List Str) (sc : Scope) : Prop where
  kind : sc.kind = .function
  co : sc.isCoroutine = false
  gen : sc.isGenerator = false
  nd : N.Nodup
  pre : N.take P.length = P
  par : ∀ x ∈ P, sc.names.lookup x = some .local
  nocell : ∀ y ∈ sc.names, y.2 ≠ .cell
  free : ∀ y ∈ sc.names, y.2 = .free → y.1 = ("__class__" : Str)
  cl : sc.names.lookup ("__class__" : Str) = some .free
  su : sc.names.lookup ("super" : Str) = some .globalImplicit
def supSB (N P : List Str) (sc : Scope) : Bool :=
  decide (sc.kind = .function) && !sc.isCoroutine && !sc.isGenerator && decide N.Nodup && decide (N.take P.length = P) && P.all (fun x => decide (sc.names.lookup x = some .local)) && sc.names.all (fun y => !decide (y.2 = .cell) && (!decide (y.2 = .free) || decide (y.1 = ("__class__" : Str)))) &&
  decide (sc.names.lookup ("__class__" : Str) = some .free) && decide (sc.names.lookup ("super" : Str) = some .globalImplicit)
theorem supS_by {N P : List Str} {sc : Scope} (h : supSB N P sc = true) : SupS N P sc := by
  unfold supSB at h
  simp only [Bool.and_eq_true, decide_eq_true_eq, Bool.not_eq_true', List.all_eq_true, Bool.or_eq_true, decide_eq_false_iff_not] at h
  obtain ⟨⟨⟨⟨⟨⟨⟨⟨h1, h2⟩, h3⟩, h4⟩, h5⟩, h6⟩, h7⟩, h8⟩, h9⟩ := h
  exact ⟨h1, h2, h3, h4, h5, h6, fun y hy => (h7 y hy).1, fun y hy e => ((h7 y hy).2).resolve_left fun z => z e, h8, h9⟩
abbrev supEnv (qual : Str) (scope : Scope) (L f : Addr) (cd : Value) (cc : Addr) : Env := PySem.W.ksEnv qual scope L f cd cc
def cxS (CX : CXT) (P : Program) (w : World) (K : PySem.W.Frag) (mg : Str → Option Value) (base : Heap) (N : List Str) (qual : Str) (scope : Scope) (f : Addr) (cd : Value) (cc : Addr) (A : Around) (outer : List Env) (s : Shared) (H : Hp) (E : XK) : Cx where
  prog := P
  w := w
  K := K
  mg := mg
  base := base
  A := A.deeper (supEnv qual scope s.heap.objs.size f cd cc)
  N := N
  s_0 := s
  H_0 := H
  env := supEnv qual scope s.heap.objs.size f cd cc
  outer := outer
  stack := supEnv qual scope s.heap.objs.size f cd cc :: outer
  ex := []
  calm := true
  fn := fun y => !(y == ("__class__" : Str))
  pn := []
  xe := fun e s' => wpAny (model P w) (A.deeper (supEnv qual scope s.heap.objs.size f cd cc)) (leaving (supEnv qual scope s.heap.objs.size f cd cc) e) (fun _ s'' => CX outer H s E e s'') (fun e' s'' => CX outer H s E e' s'') s'
theorem lookup_nd {α β : Type} [BEq α] [LawfulBEq α] : ∀ {l : List (α × β)} {x : α} {v : β}, (l.map (·.1)).Nodup → (x, v) ∈ l → l.lookup x = some v
  | [], _, _, _, h => by cases h
  | (y, u) :: l, x, v, nd, h => by
    rw [List.map_cons, List.nodup_cons] at nd
    rw [List.lookup_cons]
    rcases List.mem_cons.mp h with e | e
    · cases e
      simp
    · have hne : x ≠ y := fun z => nd.1 (by rw [← z]; exact List.mem_map_of_mem (f := (·.1)) e)
      have : (x == y) = false := by simpa using hne
      rw [this]
      exact lookup_nd nd.2 e
theorem zip_map_fst {α β : Type} : ∀ {xs : List α} {ys : List β}, ((xs.zip ys).map (·.1)).Sublist xs
  | [], _ => by simp
  | x :: xs, [] => by simp
  | x :: xs, y :: ys => by simpa using zip_map_fst
theorem inv_startS {CX : CXT} {P : Program} {w : World} {K : PySem.W.Frag} {mg : Str → Option Value} {base : Heap} {N ps : List Str} {qual : Str} {scope : Scope} {f cc : Addr} {cd : Value} {A : Around} {outer : List Env} {s : Shared} {h1 : Heap} {tk : Nat} {H : Hp} {E : XK} {us : List Value} {vs : List V}
    (S : SupS N ps scope) (hd : A.handled = none) (e0 : Env0 P w K mg base A outer s H) (hl : vs.length = ps.length) (r : Vals vs us) {v0 : Option Value} (hc : base.IsCell cc v0) (hb : ∃ o, base.get? cc = some o)
    (hns : h1.Ns s.heap.objs.size (fun x => (ps.zip us).reverse.lookup x)) (hk : ∀ b o, s.heap.get? b = some o → h1.get? b = some o) :
    Inv (cxS CX P w K mg base N qual scope f cd cc A outer s H E) [] (start N vs) H { s with heap := h1, toks := tk } := by
  have hpl : ps.length ≤ N.length := by have := congrArg List.length S.pre; rw [List.length_take] at this; omega
  have noA : ∀ b : Addr, b ∉ (cxS CX P w K mg base N qual scope f cd cc A outer s H E).ex := fun b z => absurd (show b ∈ ([] : List Addr) from z) (by simp)
  obtain ⟨oc, hoc⟩ := hb
  have hcn : H cc = none := (e0.bs cc oc hoc).2
  have one : ∀ {y : Str} {c : Addr}, (supEnv qual scope s.heap.objs.size f cd cc).cells.lookup y = some c → y = ("__class__" : Str) ∧ c = cc := fun {y c} e => by
    have e : List.lookup y [(("__class__" : Str), cc)] = some c := e
    rw [List.lookup_cons] at e
    by_cases q : (y == ("__class__" : Str)) = true
    · rw [q] at e
      exact ⟨eq_of_beq q, (Option.some.inj e).symm⟩
    · rw [Bool.eq_false_iff.mpr q] at e
      cases e
  have cellAt : h1.IsCell cc v0 := by
    obtain ⟨o, ho, hd⟩ := hc
    exact ⟨o, hk _ _ (e0.bs _ _ ho).1, hd⟩
  refine ⟨⟨e0.mod, S.kind, rfl, rfl, Nat.le_refl _, fun y z c e1 e2 => ?_, fun y hy => ?_, fun y c hf h => ?_, fun _ => hd, Around.frames_deeper e0.frames, .inr ⟨rfl, rfl⟩, fun b z => absurd z (noA b), e0.bs, e0.bsz, fun b _ _ => noA b, fun b z => absurd z (noA b), e0.funs, e0.frf⟩,
    rfl, e0.bare, Un.kept hk, ⟨_, hns, fun i y v e1 e2 e3 => ?_⟩, fun y c h => ⟨v0, by rw [(one h).2]; exact cellAt⟩, e0.hok.fresh (Nat.le_refl _), fun y c h => by rw [(one h).2]; exact hcn, fun p hp => absurd (show p ∈ ([] : List (Addr × Obj)) from hp) (by simp), e0.hok.kept hk, ?_⟩
  · rw [(one e1).1, (one e2).1]
  · have hy : scope.names.lookup y = some .cell ∨ scope.names.lookup y = some .free := hy
    rcases hy with hy | hy
    · exact absurd rfl (S.nocell _ (PySem.mem_of_lookup hy))
    · have e := S.free _ (PySem.mem_of_lookup hy) rfl
      exact ⟨cc, by rw [show y = ("__class__" : Str) from e]; rfl⟩
  · have hf : (!(y == ("__class__" : Str))) = true := hf
    rw [(one h).1] at hf
    exact absurd hf (by decide)
  · have hi : i < vs.length := by
      unfold L2.start at e2
      by_cases hi : i < vs.length
      · exact hi
      · rw [List.getElem?_append_right (by simpa using hi)] at e2
        rw [List.getElem?_replicate] at e2
        split at e2 <;> cases e2
    have ha : vs[i]? = some v := by
      unfold L2.start at e2
      rw [List.getElem?_append_left (by simpa using hi), List.getElem?_map] at e2
      cases e : vs[i]? with
      | none => rw [e] at e2; cases e2
      | some a => rw [e] at e2; cases e2; rfl
    obtain ⟨u, hu, rv⟩ := r.get ha
    have hp : ps[i]? = some y := by
      rw [← S.pre, List.getElem?_take_of_lt (by omega)]; exact e1
    have ndP : ps.Nodup := by rw [← S.pre]; exact S.nd.sublist (List.take_sublist _ _)
    refine ⟨u, rv, .inl ⟨S.par y (List.mem_of_getElem? hp), ?_⟩⟩
    refine lookup_nd ?_ (List.mem_reverse.mpr ?_)
    · rw [List.map_reverse]
      exact (List.Perm.nodup_iff (List.reverse_perm _)).mpr (ndP.sublist zip_map_fst)
    · exact List.mem_of_getElem? (i := i) (by rw [List.getElem?_zip_eq_some]; exact ⟨hp, hu⟩)
  · unfold L2.start
    show _ = N.length
    rw [List.length_append, List.length_map, List.length_replicate]
    omega
/-- what the head says of super().m for instances of C, said in the class D: the def at f2 -/
structure Sup (K : PySem.W.Frag) (C D : Addr) (m : Str) (f2 : Addr) : Prop where
  at_ : PySem.W.ks_superIn K C D m = some (some (.ref f2))
  ty : PySem.W.typeIn K (.ref f2) = some (.type "function")
  fn : PySem.W.fnIn K f2 = true
  sub : PySem.W.mroIn K C (.ref D) = some true
/-- .. of a def's code and class -/
structure SupD (P : Program) (K : PySem.W.Frag) (x qual : Str) (params : Arguments) (body : List Stmt) (scope : Scope) (dvs : List V) (f D : Addr) (cdv : Value) (cc : Addr) (fd : FuncData) : Prop where
  lk : ∃ (oc : Value) (od : Option Addr) (osl : Array (Option Value)), K.lookup f = some ⟨oc, od, .func fd, osl⟩
  fd : ∃ (dV kV doc pm : Value) (an : Option Addr) (ct : Value), fd = PySem.W.ksFn x qual params body scope dV kV doc pm an cdv ct cc ∧ DflV K dV dvs
  code : PySem.W.codeIn K cdv qual = true
  cell : ∃ (cl : Value) (cld : Option Addr) (csl : Array (Option Value)), K.lookup cc = some ⟨cl, cld, .cell (some (.ref D)), csl⟩
  cls : ∃ cd, PySem.W.clsIn K D = some cd
  file : ∃ (cda : Addr) (ccl : Value) (cdd : Option Addr) (vs : Array Value) (ccs : Array (Option Value)) (file : Str) (tf : Tok), cdv = .ref cda ∧ K.lookup cda = some ⟨ccl, cdd, .fields vs, ccs⟩ ∧ vs[2]? = some (.str file tf) ∧ ((P.main.file : Str) == file) = true
  top : (P.main.scope.names.lookup ("super" : Str)).isSome = false
  opq : PySem.W.nsIn K cStatics "thirdparty.any" = some none
section
variable {X : Cx} {pins : List (Addr × Obj)} {σ : L2.St} {H : Hp} {s : Shared}
theorem pin_news {q : Addr} {o : Obj} {h' : Heap} {tk : Nat} (I : Inv X pins σ H s) (hq : s.heap.objs.size ≤ q) (k : ∀ b o, s.heap.get? b = some o → h'.get? b = some o) (ho : h'.get? q = some o) (hc : ∀ v, o.data ≠ .cell v) : Inv X ((q, o) :: pins) σ H { s with heap := h', toks := tk } := ClX.pin_new I k hq ho hc
end
section
variable {P : Program} {w : World} {K : PySem.W.Frag} {mg : Str → Option Value} {base : Heap} {N ps : List Str} {x qual m : Str} {params : Arguments} {scope : Scope} {f cc D f2 C : Addr} {cdv : Value} {fd : FuncData} {A : Around} {outer : List Env} {s : Shared} {H : Hp} {E : XK}
  {rest : List Stmt} {body : List Stmt} {e : Expr} {es : List Expr} {p0 p1 apos pos epos : Pos} {k j : Nat} {sp : Sp} {dvs : List V}
/-- super().m(e, ..) at the head of such a def: f2 runs -/
theorem sup_call {ar : Arg} {tA : TA} {s1 : Shared} {H1 : Hp} {σ : L2.St} {Q : VK} {Em : XK} (S : SupS N ps scope) (SD : SupD P K x qual params body scope dvs f D cdv cc fd) (hm0 : mg "super" = none)
    (hp : (params.posonlyargs ++ params.args).head? = some ar) (h0 : N[0]? = some ar.arg) (hv0 : scope.names.lookup ar.arg = some .local)
    (I : Inv (cxS (L2.CX P w) P w K mg base N qual scope f cdv cc A outer s H E) [] σ H1 s1)
    {a dx : Addr} {fs : List (Str × V)} (hσ : σ[0]? = some (some (.ref a))) (hi : H1 a = some (.ins C dx fs)) (Sp : Sup K C D m f2) (F : FnR P w K mg base (L2.CX P w) k f2 sp) (hr : Room k (A.deeper (supEnv qual scope s.heap.objs.size f cdv cc)))
    (hx : Passes (L2.CX P w) (cxS (L2.CX P w) P w K mg base N qual scope f cdv cc A outer s H E) Em) (ha : PA (cxS (L2.CX P w) P w K mg base N qual scope f cdv cc A outer s H E) (e :: es) tA)
    (hm1 : (m == ("__class__" : Str)) = false)
    (h : tA σ H1 fun vs H2 => sp (.ref a :: vs) H2 Q Em)
    (hst : starEach (e :: es) (supEnv qual scope s.heap.objs.size f cdv cc) = (false, eval e (supEnv qual scope s.heap.objs.size f cdv cc)) :: starEach es (supEnv qual scope s.heap.objs.size f cdv cc)) (hpl : (backTo pos (starEach es (supEnv qual scope s.heap.objs.size f cdv cc))).any (·.1) = false) {pl : Sem Bool}
    (ht : eval (.Call (.Attribute (.Call (.Name "super" p0) [] [] p1) m apos) (e :: es) [] pos) (supEnv qual scope s.heap.objs.size f cdv cc) = (do
      let ov ← attributeBase (.Call (.Name "super" p0) [] [] p1) m (supEnv qual scope s.heap.objs.size f cdv cc) (eval (.Call (.Name "super" p0) [] [] p1) (supEnv qual scope s.heap.objs.size f cdv cc))
      standAt apos.atName
      let (g, first) ← holding [ov] (getMethod ov m pl)
      callWith pos g first (backTo pos (starEach (e :: es) (supEnv qual scope s.heap.objs.size f cdv cc))) [])) :
    _root_.PySem.wpAt (model P w) (A.deeper (supEnv qual scope s.heap.objs.size f cdv cc)) (.func body (supEnv qual scope s.heap.objs.size f cdv cc)) (eval (.Call (.Attribute (.Call (.Name "super" p0) [] [] p1) m apos) (e :: es) [] pos) (supEnv qual scope s.heap.objs.size f cdv cc))
      (EP (cxS (L2.CX P w) P w K mg base N qual scope f cdv cc A outer s H E) [] σ Q) (cxS (L2.CX P w) P w K mg base N qual scope f cdv cc A outer s H E).xe s1 := by
  refine ks_wpAt_MethodCall ?_ ht
  obtain ⟨oc, od, osl, lk⟩ := SD.lk
  obtain ⟨dV, kV, doc, pm, an, ct, efd, _⟩ := SD.fd
  obtain ⟨cl, cld, csl, kc⟩ := SD.cell
  obtain ⟨cdD, hD⟩ := SD.cls
  obtain ⟨cda, ccl, cdd, vs, ccs, file, tf, ecd, kcd, hvs, hfile⟩ := SD.file
  subst efd
  have X0 : K.In s1.heap := I.kIn
  obtain ⟨mm, hns, hl⟩ := I.loc
  have ecode : (supEnv qual scope s.heap.objs.size f cdv cc).code = .ref cda := ecd
  refine ks_wpAt_super_base S.su S.cl hm1 rfl (X0 _ _ lk) rfl hp ecode (X0 _ _ kcd) rfl hvs hfile SD.top ?_
  have hT : ∃ oD, s1.heap.get? D = some oD ∧ oD.data = .cls cdD := by
    unfold PySem.W.clsIn at hD
    split at hD
    · rename_i c d cd' sl ho
      cases hD
      exact ⟨_, X0 _ _ ho, rfl⟩
    · cases hD
  obtain ⟨oD, hD1, hD2⟩ := hT
  obtain ⟨mb, hb1, hb2⟩ := I.mod.blt
  refine PySem.W.ks_loadName_global S.kind S.su (Calls.loadGlobal_builtin (I.mod.glob.keeps I.bk) hm0 (hb1.keeps I.bk) ((hb2 ("super" : Str) (by decide)).trans (show bootBuiltins ("super" : Str) = some (.type "super") from PyProof.Rows.Boot.«super»)) ⟨rfl, ?_⟩)
  refine wpAny_loadName_free S.kind S.cl rfl ⟨_, X0 _ _ kc, rfl⟩ ?_
  obtain ⟨u, ru, lku⟩ := hl 0 ar.arg (.ref a) h0 hσ (.inl hv0)
  have hmu : mm ar.arg = some u := by
    rcases lku with ⟨_, z⟩ | ⟨z, _⟩
    · exact z
    · have z : scope.names.lookup ar.arg = some .cell ∨ scope.names.lookup ar.arg = some .free := z
      rw [hv0] at z
      rcases z with z | z <;> cases z
  obtain rfl : u = Value.ref a := ru
  refine wpAny_loadName_local S.kind hv0 hns hmu ?_
  refine ks_wpAny_isType_cls hD1 hD2 ⟨rfl, ?_⟩
  obtain ⟨_, _, _, hia, _⟩ := (show ObjOk P w H1 s1.heap a (.ins C dx fs) from I.hok a _ hi)
  obtain ⟨hp1, g1, d1, t1, os1⟩ := s1
  refine ks_wpAny_call_super hD1 hD2 hia rfl (fun c z => by cases z) (PySem.W.looks_mroIn X0 Sp.sub) fun h' hso k' => ?_
  have I2 : Inv (cxS (L2.CX P w) P w K mg base N qual scope f cdv cc A outer s H E) [(hp1.objs.size, PySem.W.ks_superObj D a C)] σ H1 ⟨h', g1, d1, t1, os1⟩ := pin_news (tk := t1) I (Nat.le_refl _) k' hso (fun v z => by cases z)
  have X2 : K.In h' := I2.kIn
  cases hc : PySem.W.clsIn K C with
  | none => have z := Sp.at_; unfold PySem.W.ks_superIn at z; rw [hc] at z; cases z
  | some cd =>
    have hat := Sp.at_
    unfold PySem.W.ks_superIn at hat
    rw [hc] at hat
    have hof : ∃ of, h'.get? f2 = some of ∧ of.cls = .type "function" := by
      have ht' : (K.lookup f2).map (·.cls) = some (.type "function") := Sp.ty
      cases z : K.lookup f2 with
      | none => rw [z] at ht'; cases ht'
      | some of => rw [z] at ht'; exact ⟨of, X2 _ _ z, Option.some.inj ht'⟩
    obtain ⟨of, hof1, hof2⟩ := hof
    have haC : a ≠ C := by
      intro z
      subst z
      unfold PySem.W.clsIn at hc
      split at hc
      · rename_i c d cd' sl ho
        have q := X2 _ _ ho
        have q2 := k' _ _ hia
        rw [q2] at q
        cases q
      · cases hc
    refine ks_wpAny_getMethod_super hso (PySem.W.looks_opaque X2 SD.opq) (l₀ := cd.mro) (fun A Q E s k q => wpAny_bind ((PySem.W.looks_clsIn X2 hc) A _ E s k (wpAny_pure q))) rfl X2 hat hof1 hof2 haC hm1 ?_
    have I3 : Inv (cxS (L2.CX P w) P w K mg base N qual scope f cdv cc A outer s H E) [(h'.objs.size, PySem.W.methodObj (.ref f2) (.ref a)), (hp1.objs.size, PySem.W.ks_superObj D a C)] σ H1 ⟨h'.push (PySem.W.methodObj (.ref f2) (.ref a)), g1, d1, t1 + 1, os1⟩ := ClX.met_new I2
    refine ClX.callwith_cm (C := a) I3 (ClX.base_none I2 (Nat.le_refl _)) Sp.fn (thn (ha.run pos _ _ σ H1 _ I3 h) fun us s3 ⟨vs, H2, I4, rv, q2⟩ => ⟨⟨ClX.pin_at I4, I4.kIn⟩, ?_⟩) hst hpl
    exact thn (ClX.run_cm (C := a) (k := k) (CX := L2.CX P w) F hr hx I4 rv q2) fun _ _ y => ClX.unpinE y
end
theorem seq_exp {m : ME} {b : MS} {ρ : Ev} {S : Sto} : sSeq (sExp m) b ρ S = (m ρ S).bind fun _ S1 => b ρ S1 := by
  unfold sSeq sExp
  cases m ρ S <;> rfl
theorem mt_sat {X : Cx} {τ : List (String × Fn)} {n : String} {ms : MA} {ρ : Ev} {S : Sto} {G : Gh} {H : Hp} {k : D → Sto → Out Fl} {Dn : Ends} (h : satS X G H ((mtO τ n (v 0) ms ρ S).bind k) Dn) :
    ∃ d c fs F, ρ[0]? = some (some d) ∧ insOf S d = some (c, fs) ∧ τ.lookup c = some F ∧ fs.lookup n = none ∧ satS X G H ((ms ρ S).bind fun ds S2 => (F (d :: ds) S2).bind k) Dn := by
  unfold mtO v at h
  match h0 : ρ[0]?, h with
  | some (some d), h =>
    simp only [bind_ok] at h
    match h1 : insOf S d, h with
    | some (c, fs), h =>
      simp only at h
      match h2 : τ.lookup c, h with
      | some F, h =>
        simp only at h
        match h3 : fs.lookup n, h with
        | none, h =>
          refine ⟨d, c, fs, F, rfl, h1, h2, h3, ?_⟩
          simp only at h
          cases hm : ms ρ S with
          | ok ds S2 => rw [hm] at h; exact h
          | ex c' fs' S2 => rw [hm] at h; exact h
          | no => rw [hm] at h; exact h
        | some _, h => exact h.elim
      | none, h => exact h.elim
    | none, h => exact h.elim
  | some none, h => exact h.elim
  | none, h => exact h.elim
section
variable {P : Program} {w : World} {K : PySem.W.Frag} {mg : Str → Option Value} {base : Heap} {N ps : List Str} {x qual : Str} {params : Arguments} {body rest : List Stmt} {scope : Scope} {f cc D : Addr} {cdv : Value} {fd : FuncData} {e : Expr} {es : List Expr} {p0 p1 apos pos epos : Pos} {j : Nat} {dvs : List V} {b : MS} {ms : MA}
/-- such a def by its body -/
theorem supOk {np n : Nat} {M : List (String × Fn)} {mn : String} {ar : Arg} {pl : Sem Bool} (SD : SupD P K x qual params body scope dvs f D cdv cc fd) (S : SupS N ps scope) (hn : ps.length = np) (hN : N.length = n) (hm0 : mg "super" = none)
    (hp : (params.posonlyargs ++ params.args).head? = some ar) (h0 : N[0]? = some ar.arg) (hv0 : scope.names.lookup ar.arg = some .local) (hm1 : ((Str.ofString mn : Str) == ("__class__" : Str)) = false)
    (hM : ∀ c F, M.lookup c = some F → ∃ f2, Sup K (gaS K c) D (Str.ofString mn) f2 ∧ FnF P w K mg base j f2 F)
    (hbd : body = .Expr (.Call (.Attribute (.Call (.Name "super" p0) [] [] p1) (Str.ofString mn) apos) (e :: es) [] pos) epos :: rest)
    (hsw : ∀ env, swapsWith (.Call (.Attribute (.Call (.Name "super" p0) [] [] p1) (Str.ofString mn) apos) (e :: es) [] pos) none epos.line env = pure false)
    (hst : ∀ env, starEach (e :: es) env = (false, eval e env) :: starEach es env) (hpl : ∀ env, (backTo pos (starEach es env)).any (·.1) = false)
    (ht : ∀ env, eval (.Call (.Attribute (.Call (.Name "super" p0) [] [] p1) (Str.ofString mn) apos) (e :: es) [] pos) env = (do
      let ov ← attributeBase (.Call (.Name "super" p0) [] [] p1) (Str.ofString mn) env (eval (.Call (.Name "super" p0) [] [] p1) env)
      standAt apos.atName
      let (g, first) ← holding [ov] (getMethod ov (Str.ofString mn) pl)
      callWith pos g first (backTo pos (starEach (e :: es) env)) []))
    (hms : ∀ (A : Around) (outer : List Env) (s : Shared) (H : Hp) (E : XK), Room j (A.deeper (supEnv qual scope s.heap.objs.size f cdv cc)) → QA (cxS (L2.CX P w) P w K mg base N qual scope f cdv cc A outer s H E) (e :: es) ms)
    (hrest : ∀ (A : Around) (outer : List Env) (s : Shared) (H : Hp) (E : XK), Room j (A.deeper (supEnv qual scope s.heap.objs.size f cdv cc)) → QSs (cxS (L2.CX P w) P w K mg base N qual scope f cdv cc A outer s H E) rest b) :
    FnOk P w K mg base (L2.CX P w) (j + 1) f fd ps (spF K (dfn np n (sSeq (sExp (mtO M mn (v 0) ms)) b))) := by
  refine ⟨spF_len hn, fun A outer s H args us vs Q E hr e0 hb r hsp => ?_⟩
  have hl := spF_len (K := K) hn _ _ _ _ hsp
  obtain ⟨oc, od, osl, lk⟩ := SD.lk
  obtain ⟨dV, kV, doc, pm, an, ct, efd, _⟩ := id SD.fd
  obtain ⟨cl, cld, csl, kc⟩ := SD.cell
  subst efd
  have KX : K.In s.heap := e0.mod.kin.keeps fun b o e => (e0.bs b o e).1
  have lim : s.heap.NoLimit := e0.mod.nolimit.keeps fun b o e => (e0.bs b o e).1
  refine ks_codeAny_call_defAt (body := body) (binds := ps.zip us) hr.depth (KX _ _ lk) rfl lim (PySem.W.codeRec_of KX SD.code) rfl hb S.nocell (fun ⟨y, u⟩ hy => S.par y (List.of_mem_zip hy).1) (fun h1 hns hk => ?_) S.co S.gen S.kind
  have I : Inv (cxS (L2.CX P w) P w K mg base N qual scope f cdv cc A outer s H E) [] (L2.start N vs) H { s with heap := h1, toks := s.toks + (ps.zip us).length } :=
    inv_startS S hr.hd e0 hl r (v0 := some (.ref D)) ⟨_, e0.mod.kin _ _ kc, rfl⟩ ⟨_, e0.mod.kin _ _ kc⟩ hns hk
  have hr' := hr.deeper (supEnv qual scope s.heap.objs.size f cdv cc)
  obtain ⟨ρ, S0, G, sm, re, z⟩ := body_start (X := cxS (L2.CX P w) P w K mg base N qual scope f cdv cc A outer s H E) rfl (takes_of rfl rfl rfl rfl) hn hN hsp
  rw [seq_exp] at z
  obtain ⟨d, c, fs, F, g0, g1, g2, g3, z⟩ := mt_sat z
  obtain ⟨v0, hσ, r0⟩ := re.get g0
  obtain ⟨a, dx, ws, rfl, hA, rf⟩ := sm.ins g1 r0
  obtain ⟨f2, hSp, Ff⟩ := hM c F g2
  have fin : ∀ {σ' : L2.St} {H' : Hp} {v : V} {u : Value} {s' : Shared}, Inv (cxS (L2.CX P w) P w K mg base N qual scope f cdv cc A outer s H E) [] σ' H' s' → L2.RelV v u → Q v H' → CE outer P w H s Q u s' :=
    fun {σ' H' v u s'} J rv q => ⟨v, H', J.os, J.bare, J.base, J.hok, rv, q⟩
  show _root_.PySem.wpAt (model P w) (A.deeper (supEnv qual scope s.heap.objs.size f cdv cc)) (.func body (supEnv qual scope s.heap.objs.size f cdv cc)) (execs body (supEnv qual scope s.heap.objs.size f cdv cc)) _ _ _
  conv => arg 4; rw [hbd]
  have hia : interactive (supEnv qual scope s.heap.objs.size f cdv cc) = false := by
    show (scope.kind == .module && _) = false
    rw [S.kind]
    rfl
  refine ks_wpAt_execs_cons (ks_wpAt_Expr_any ?_ hia (hsw _))
  refine ks_wpAt_mono (sup_call (body := body) (E := E) (Q := fun _ H3 => tS (cxS (L2.CX P w) P w K mg base N qual scope f cdv cc A outer s H E) b { nx := fun _ H' => Q .non H', rt := Q } (L2.start N vs) H3) S SD hm0 hp h0 hv0 I hσ hA hSp Ff hr' passE (hms A outer s H E hr') hm1 ?_ (hst _) (hpl _) (ht _)) (fun u s' hu => ?_) fun _ _ y => y
  · refine ⟨ρ, S0, G, sm, re, (satS.bind (R := Rps K) z).imp fun vs2 H2 w2 => ?_⟩
    obtain ⟨ds, S2, G2, le2, sm2, r2, q2⟩ := w2
    refine ⟨d :: ds, S2, G2, sm2, .cons (r0.mono le2.le) r2, sat_sp (X := cxS (L2.CX P w) P w K mg base N qual scope f cdv cc A outer s H E) ((satS.bind (R := Rp K) q2).imp fun v3 H3 w3 => ?_)⟩
    obtain ⟨d3, S3, G3, le3, sm3, r3, q3⟩ := w3
    exact ⟨ρ, S3, G3, sm3, (re.mono le2.le).mono le3.le, q3⟩
  · obtain ⟨v3, H3, I3, rv, q⟩ := hu
    refine wpAt_of_wpAny (wpAny_mono ((hrest A outer s H E hr').run [] s' (L2.start N vs) H3 _ I3 q) (fun fl s2 hs => ?_) fun e s2 hs => hs)
    cases fl with
    | ret u =>
      obtain ⟨v, σ', H', J, rv, q⟩ := hs
      exact fin J rv q
    | next =>
      obtain ⟨σ', H', J, q⟩ := hs
      exact fin (v := V.non) (u := Value.none) J rfl q
    | brk =>
      obtain ⟨_, _, _, q⟩ := hs
      exact False.elim q
    | cont =>
      obtain ⟨_, _, _, q⟩ := hs
      exact False.elim q
end
end PV
set_option Elab.async false
set_option linter.all false
set_option maxRecDepth 100000
set_option maxHeartbeats 4000000
/-! P63: defs that say super(), as the head has them; a def found at another name of its address. -/
namespace PV
open PySem PySem.Spec PyProof.Rows L2 ZL
section
variable {P : Program} {w : World} {K : PySem.W.Frag} {mg : Str → Option Value} {base : Heap} {N ps : List Str} {x qual : Str} {params : Arguments} {body : List Stmt} {scope : Scope} {f cc Dc : Addr} {cdv : Value} {fd : FuncData} {k n : Nat} {dvs : List V} {dds : List D} {F : Fn}
theorem ihF {f f' : Addr} {F : Fn} (e : f' = f) (h : FnF P w K mg base k f F) : FnF P w K mg base k f' F := by rw [e]; exact h
theorem ihK {f f' : Addr} {F : Fn} {ks : List Str} (e : f' = f) (h : FnKO P w K mg base k f n ks F) : FnKO P w K mg base k f' n ks F := by rw [e]; exact h
theorem FnKO.mono {j : Nat} {f : Addr} {F : Fn} {ks : List Str} (h : FnKO P w K mg base j f n ks F) (hj : j ≤ k) : FnKO P w K mg base k f n ks F := by
  obtain ⟨fd, ps, g, gV, sp, Fk, hb, hsp⟩ := h
  exact ⟨fd, ps, g, gV, sp, Fk.mono hj, hb, hsp⟩
/-- no defaults, all values by position -/
theorem supF {F : Fn} (SD : SupD P K x qual params body scope [] f Dc cdv cc fd) (Fk : FnOk P w K mg base (L2.CX P w) k f fd ps (spF K F))
    (hb : ∀ (kV doc pm : Value) (an : Option Addr) (ct : Value) (us : List Value), us.length = ps.length → bindArgs (PySem.W.ksFn x qual params body scope .none kV doc pm an cdv ct cc) ⟨us, []⟩ = pure (ps.zip us)) : FnF P w K mg base k f F := by
  obtain ⟨dV, kV, doc, pm, an, ct, efd, hD⟩ := SD.fd
  have B : Binds K fd ps [] := by
    rcases hD with ⟨_, rfl⟩ | ⟨e, _⟩
    · rw [efd]
      exact .all (hb kV doc pm an ct)
    · exact absurd rfl e
  exact (Fk.raw B .nil).imp fun vs H Q E h => by rw [List.append_nil]; exact h
/-- .. by names -/
theorem supK0 {m : Nat} {F : Fn} (ks : List Str) (idx : List Nat) (SD : SupD P K x qual params body scope [] f Dc cdv cc fd) (Fk : FnOk P w K mg base (L2.CX P w) k f fd ps (spF K F))
    (hb : ∀ (kV doc pm : Value) (an : Option Addr) (ct : Value) (us ws : List Value), us.length = m → ws.length = ks.length → bindArgs (PySem.W.ksFn x qual params body scope .none kV doc pm an cdv ct cc) ⟨us, ks.zip ws⟩ = pure (ps.zip (pickL idx (us ++ ws)))) :
    FnKO P w K mg base k f m ks (kwF idx [] F) := by
  obtain ⟨dV, kV, doc, pm, an, ct, efd, hD⟩ := SD.fd
  refine ⟨fd, ps, fun us ws => pickL idx (us ++ ws), fun vs zs => pickL idx (vs ++ zs), _, Fk, ⟨?_, fun r r' => pick_vals (r.append r') idx⟩, ?_⟩
  · intro s us ws _ l1 l2
    rcases hD with ⟨_, rfl⟩ | ⟨e, _⟩
    · rw [efd]
      exact .of_eq (hb kV doc pm an ct us ws l1 l2)
    · exact absurd rfl e
  · rintro vs zs H Q E ⟨ds, S, G, sm, r, h⟩
    refine ⟨pickL idx ds, S, G, sm, pick_rps r idx, ?_⟩
    have e : kwF idx [] F ds S = F (pickL idx ds) S := by
      unfold kwF
      rw [List.append_nil]
    rw [e] at h
    exact h
theorem supB1 (SD : SupD P K x qual params body scope dvs f Dc cdv cc fd) (m j : Nat) (hd : dvs ≠ []) (hn : m + (dvs.length - j) = ps.length)
    (h : ∀ (T : Addr) (kV doc pm : Value) (an : Option Addr) (ct : Value) (us its : List Value), us.length = m → its.length = dvs.length →
      ∃ k, bindArgs (PySem.W.ksFn x qual params body scope (.ref T) kV doc pm an cdv ct cc) ⟨us, []⟩ = seqItems? (.ref T) >>= k ∧ k (some its.toArray) = pure (ps.zip (us ++ its.drop j))) : ∃ ds, Vals (dvs.drop j) ds ∧ Binds K fd ps ds := by
  obtain ⟨dV, kV, doc, pm, an, ct, efd, hD⟩ := SD.fd
  rcases hD with ⟨e, _⟩ | ⟨_, T, o, its, mm, rfl, lT, oT, rT⟩
  · exact absurd e hd
  · refine ⟨its.drop j, rT.drop j, fun s us X hlen => ?_⟩
    have l1 : its.length = dvs.length := rT.length.symm
    have l2 : us.length = m := by
      rw [List.length_append, List.length_drop, l1] at hlen
      omega
    obtain ⟨k, e1, e2⟩ := h T kV doc pm an ct us its l2 l1
    refine BindsTo.of_looks fun M => ?_
    rw [efd, e1]
    exact looks_items X lT oT (.of_pure e2)
/-- with defaults, by position -/
theorem supFD {np m : Nat} {b : MS} (SD : SupD P K x qual params body scope dvs f Dc cdv cc fd) (Fk : FnOk P w K mg base (L2.CX P w) k f fd ps (spF K (dfn np m b))) (hn : ps.length = np) (hd : dds.length = dvs.length) (rd : ∀ G, Rps K G dds dvs)
    (hb : ∀ i, i ≤ dvs.length → ∃ ds, Vals (dvs.drop i) ds ∧ Binds K fd ps ds) : FnF P w K mg base k f (dfnD np m b dds) := by
  intro A outer s H us vs Q E hr e0 r h
  obtain ⟨ds, S, G, sm, rr, h⟩ := h
  obtain ⟨dz, rz, hbnd⟩ := hb (dds.length - (np - ds.length)) (by omega)
  have rr2 : Rps K G (ds ++ dds.drop (dds.length - (np - ds.length))) (vs ++ dvs.drop (dds.length - (np - ds.length))) := rr.append ((rd G).drop _)
  have sp2 : spF K (dfn np m b) (vs ++ dvs.drop (dds.length - (np - ds.length))) H Q E := ⟨_, S, G, sm, rr2, h⟩
  have vv := r.append rz
  have hl := Fk.len _ _ _ _ sp2
  exact Fk.run A outer s H ⟨us, []⟩ (us ++ dz) _ Q E hr e0 (hbnd s us (e0.mod.kin.keeps fun b o e => (e0.bs b o e).1) (by rw [← vv.length]; exact hl)) vv sp2
/-- .. by names -/
theorem supK1 {m : Nat} {F : Fn} (ks : List Str) (idx : List Nat) (SD : SupD P K x qual params body scope dvs f Dc cdv cc fd) (Fk : FnOk P w K mg base (L2.CX P w) k f fd ps (spF K F)) (hd : dvs ≠ []) (rd : ∀ G, Rps K G dds dvs)
    (hb : ∀ (T : Addr) (kV doc pm : Value) (an : Option Addr) (ct : Value) (us ws its : List Value), us.length = m → ws.length = ks.length → its.length = dvs.length →
      ∃ k, bindArgs (PySem.W.ksFn x qual params body scope (.ref T) kV doc pm an cdv ct cc) ⟨us, ks.zip ws⟩ = seqItems? (.ref T) >>= k ∧ k (some its.toArray) = pure (ps.zip (pickL idx (us ++ ws ++ its)))) :
    FnKO P w K mg base k f m ks (kwF idx dds F) := by
  obtain ⟨dV, kV, doc, pm, an, ct, efd, hD⟩ := SD.fd
  rcases hD with ⟨e, _⟩ | ⟨_, T, o, its, mm, rfl, lT, oT, rT⟩
  · exact absurd e hd
  · refine ⟨fd, ps, fun us ws => pickL idx (us ++ ws ++ its), fun vs zs => pickL idx (vs ++ zs ++ dvs), _, Fk, ⟨?_, fun r r' => pick_vals ((r.append r').append rT) idx⟩, ?_⟩
    · intro s us ws X l1 l2
      obtain ⟨k, e1, e2⟩ := hb T kV doc pm an ct us ws its l1 l2 rT.length.symm
      refine BindsTo.of_looks fun M => ?_
      rw [efd, e1]
      exact looks_items X lT oT (.of_pure e2)
    · rintro vs zs H Q E ⟨ds, S, G, sm, r, h⟩
      exact ⟨pickL idx (ds ++ dds), S, G, sm, pick_rps (r.append (rd G)) idx, h⟩
end
/-! ### what the head says of them -/
structure SupA where
  at_ : PySem.W.Frag → Addr
  D : PySem.W.Frag → Addr
  name : Str
  qual : Str
  params : Arguments
  body : List Stmt
  scope : Scope
  file : Str
  dfl : List He.Dv := []
def SupA.dvs (K : PySem.W.Frag) (d : SupA) : List V := d.dfl.map (He.Dv.v K)
/-- the cell of __class__ -/
def ccOf (K : PySem.W.Frag) (a : Addr) : Addr := match K.lookup a with
  | some ⟨_, _, .func fd, _⟩ => (match fd.closure with | (_, c) :: _ => c | _ => 0)
  | _ => 0
def supV (K : PySem.W.Frag) (d : SupA) : He5.FnW := some (d.name, d.qual, d.params, .stmts d.body, d.scope, mainGlobals, [(("__class__" : Str), ccOf K (d.at_ K))], builtinsNs)
def fileB (K : PySem.W.Frag) (cdv : Value) (file : Str) : Bool := match cdv with
  | .ref c => (match K.lookup c with
    | some ⟨_, _, .fields vs, _⟩ => (match (vs[2]? : Option Value) with
      | some (.str f _) => decide (f = file)
      | _ => false)
    | _ => false)
  | _ => false
theorem fileB_ok {K : PySem.W.Frag} {cdv : Value} {file : Str} (h : fileB K cdv file = true) :
    ∃ (cda : Addr) (ccl : Value) (cdd : Option Addr) (vs : Array Value) (ccs : Array (Option Value)) (tf : Tok), cdv = .ref cda ∧ K.lookup cda = some ⟨ccl, cdd, .fields vs, ccs⟩ ∧ (vs[2]? : Option Value) = some (.str file tf) := by
  unfold fileB at h
  cases cdv with
  | ref c =>
    have h : (match K.lookup c with
      | some ⟨_, _, .fields vs, _⟩ => (match (vs[2]? : Option Value) with
        | some (.str f _) => decide (f = file)
        | _ => false)
      | _ => false) = true := h
    cases q : K.lookup c with
    | none => rw [q] at h; cases h
    | some o =>
      obtain ⟨oc, od, dt, osl⟩ := o
      rw [q] at h
      cases dt with
      | fields vs =>
        have h : (match (vs[2]? : Option Value) with
          | some (.str f _) => decide (f = file)
          | _ => false) = true := h
        cases e : (vs[2]? : Option Value) with
        | none => rw [e] at h; cases h
        | some u =>
          rw [e] at h
          cases u with
          | str f t =>
            have z : f = file := of_decide_eq_true h
            subst z
            exact ⟨c, oc, od, vs, osl, t, rfl, q, e⟩
          | _ => cases h
      | _ => cases h
  | _ => cases h
def cellB (K : PySem.W.Frag) (cc D : Addr) : Bool := match K.lookup cc with
  | some ⟨_, _, .cell (some (.ref d)), _⟩ => decide (d = D)
  | _ => false
theorem cellB_ok {K : PySem.W.Frag} {cc D : Addr} (h : cellB K cc D = true) : ∃ (cl : Value) (cld : Option Addr) (csl : Array (Option Value)), K.lookup cc = some ⟨cl, cld, .cell (some (.ref D)), csl⟩ := by
  unfold cellB at h
  cases q : K.lookup cc with
  | none => rw [q] at h; cases h
  | some o =>
    obtain ⟨oc, od, dt, osl⟩ := o
    rw [q] at h
    cases dt with
    | cell v =>
      cases v with
      | none => cases h
      | some u =>
        cases u with
        | ref d =>
          have z : d = D := of_decide_eq_true h
          subst z
          exact ⟨oc, od, osl, rfl⟩
        | _ => cases h
    | _ => cases h
def SupA.ok (K : PySem.W.Frag) (d : SupA) : Bool := (match K.lookup (d.at_ K) with
  | some ⟨_, _, .func fd, _⟩ => PySem.W.codeIn K fd.code d.qual && (He.dflB K fd.defaults (d.dvs K) && fileB K fd.code d.file)
  | _ => false) && (cellB K (ccOf K (d.at_ K)) (d.D K) && ((PySem.W.clsIn K (d.D K)).isSome && He.eqO (PySem.W.nsIn K cStatics "thirdparty.any") (some none)))
def SupSays (sups : List SupA) (K : PySem.W.Frag) : Prop := (sups.all fun d => d.ok K) = true ∧ (sups.map fun d => He5.fnA K (d.at_ K)) = sups.map (supV K)
/-- what the program's text says -/
structure PrOk (P : Program) (file : Str) : Prop where
  file : (P.main.file : Str) = file
  top : (P.main.scope.names.lookup ("super" : Str)).isSome = false
theorem SupA.supD {P : Program} {K : PySem.W.Frag} {d : SupA} (e : He5.fnA K (d.at_ K) = supV K d) (c : d.ok K = true) (po : PrOk P d.file) :
    ∃ cdv fd, SupD P K d.name d.qual d.params d.body d.scope (d.dvs K) (d.at_ K) (d.D K) cdv (ccOf K (d.at_ K)) fd := by
  obtain ⟨c1, c2⟩ := He.ba c
  obtain ⟨c3, c4⟩ := He.ba c2
  obtain ⟨c5, c6⟩ := He.ba c4
  have hcell := cellB_ok c3
  have hop := He.eqO_ok c6
  have hcls : ∃ cd, PySem.W.clsIn K (d.D K) = some cd := Option.isSome_iff_exists.mp c5
  unfold supV at e
  unfold He5.fnA at e
  generalize hcc : ccOf K (d.at_ K) = cc at *
  cases q : K.lookup (d.at_ K) with
  | none => rw [q] at c1; cases c1
  | some o =>
    obtain ⟨oc, od, dt, osl⟩ := o
    rw [q] at c1 e
    cases dt with
    | func fd =>
      obtain ⟨n1, n2, n3, n4, n5, n6, n7, n8, n9, n10, n11, n12, n13, n14, n15⟩ := fd
      have e2 : (some (n1, n2, n3, n4, n5, n6, n7, n15) : He5.FnW) = some (d.name, d.qual, d.params, .stmts d.body, d.scope, mainGlobals, [(("__class__" : Str), cc)], builtinsNs) := e
      simp only [Option.some.injEq, Prod.mk.injEq] at e2
      obtain ⟨h1, h2, h3, h4, h5, h6, h7, h8⟩ := e2
      have c7 : (PySem.W.codeIn K n13 d.qual && (He.dflB K n8 (d.dvs K) && fileB K n13 d.file)) = true := c1
      obtain ⟨k1, k2⟩ := He.ba c7
      obtain ⟨k3, k4⟩ := He.ba k2
      obtain ⟨cda, ccl, cdd, vs, ccs, tf, f1, f2, f3⟩ := fileB_ok k4
      refine ⟨n13, _, ⟨oc, od, osl, q⟩, ⟨n8, n9, n10, n11, n12, n14, ?_, He.dflB_ok k3⟩, k1, hcell, hcls, ⟨cda, ccl, cdd, vs, ccs, d.file, tf, f1, f2, f3, ?_⟩, po.top, hop⟩
      · rw [h1, h2, h3, h4, h5, h6, h7, h8]
      · rw [po.file]; exact beq_self_eq_true _
    | _ => cases c1
theorem SupSays.def_ {P : Program} {sups : List SupA} {K : PySem.W.Frag} (c : SupSays sups K) (i : Nat) {d : SupA} (po : PrOk P d.file) (h : sups[i]? = some d := by rfl) :
    ∃ cdv fd, SupD P K d.name d.qual d.params d.body d.scope (d.dvs K) (d.at_ K) (d.D K) cdv (ccOf K (d.at_ K)) fd := by
  have e2 : (sups.map fun d => He5.fnA K (d.at_ K))[i]? = (sups.map (supV K))[i]? := by rw [c.2]
  rw [List.getElem?_map, List.getElem?_map, h] at e2
  exact SupA.supD (Option.some.inj e2) (List.all_eq_true.mp c.1 d (List.mem_of_getElem? h)) po
def supB (K : PySem.W.Frag) (C D : Addr) (m : Str) (f2 : Addr) : Bool := He.eqO (PySem.W.ks_superIn K C D m) (some (some (.ref f2))) && (decide (PySem.W.typeIn K (.ref f2) = some (.type "function")) && (PySem.W.fnIn K f2 && decide (PySem.W.mroIn K C (.ref D) = some true)))
theorem sup_of {K : PySem.W.Frag} {C D : Addr} {m : Str} {f2 : Addr} (h : supB K C D m f2 = true) : Sup K C D m f2 := by
  obtain ⟨h1, h⟩ := He.ba h
  obtain ⟨h2, h⟩ := He.ba h
  obtain ⟨h3, h4⟩ := He.ba h
  exact ⟨He.eqO_ok h1, of_decide_eq_true h2, h3, of_decide_eq_true h4⟩
/-! constants that are told by the head -/
inductive Cv where
  | non | bl (b : Bool) | int (i : Int) | str (x : Str)
deriving DecidableEq
def Cv.dv : Cv → He.Dv
  | .non => .non
  | .bl b => .bl b
  | .int i => .int i
  | .str x => .str x
def Cv.d : Cv → D
  | .non => .non
  | .bl b => .bl b
  | .int i => .int i
  | .str x => .str x
theorem cv_rp {K : PySem.W.Frag} {G : Gh} : ∀ {c : Cv}, Rp K G c.d (c.dv.v K)
  | .non => .non
  | .bl b => .bl b
  | .int i => .int i
  | .str x => .str x
theorem cvs_rps {K : PySem.W.Frag} {G : Gh} : ∀ {cs : List Cv}, Rps K G (cs.map Cv.d) ((cs.map Cv.dv).map (He.Dv.v K))
  | [] => .nil
  | c :: cs => .cons cv_rp (cvs_rps (cs := cs))
end PV
set_option Elab.async false
set_option linter.all false
set_option maxRecDepth 100000
set_option maxHeartbeats 4000000
/-! P64: a constant of the class through an instance; match of a text; method calls by names over a table of classes. -/
namespace PV
open PySem PySem.Spec PyProof.Rows L2 ZL
/-! ### a constant of the class, through an instance -/
def icG (τ : List (String × D)) (f : String) : G1 := fun d S => match insOf S d with
  | some (c, fs) => match τ.lookup c with
    | some x => match fs.lookup f with
      | none => .ok x S
      | some _ => .no
    | none => .no
  | none => .no
def ICs (X : Cx) (f : String) (τ : List (String × D)) : Prop := ∀ c d, τ.lookup c = some d → Cls X.K (gaS X.K c) ∧ ∃ v u, Con X.K (gaS X.K c) (Str.ofString f) v u ∧ ∀ G, Rp X.K G d v
section
variable {X : Cx} {e : Expr} {m : ME} {pos : Pos}
theorem qe_ic {τ : List (String × D)} {f : String} (hc : ICs X f τ) (h : QE X e m) (hb : attributeBase e (Str.ofString f) X.env (eval e X.env) = eval e X.env := by rfl) : QE X (.Attribute e (Str.ofString f) pos) (una (icG τ f) m) :=
  qe_of (pe_con h hb) fun ρ S G σ H Q sm re h => by
    refine ⟨ρ, S, G, sm, re, (sat.bind h).imp fun v H1 w => ?_⟩
    obtain ⟨x, S1, G1, le1, sm1, r1, q1⟩ := w
    unfold icG at q1
    split at q1
    · rename_i c fs ei
      split at q1
      · rename_i y hy
        split at q1
        · rename_i hl
          obtain ⟨a, dx, ws, rfl, ha, rf⟩ := sm1.ins ei r1
          obtain ⟨k1, z, u, k2, k3⟩ := hc c y hy
          exact ⟨a, _, dx, ws, z, u, rfl, ha, k1, k2, rf.gone hl, q1 G1 H1 z .refl sm1 (k3 G1)⟩
        · exact q1.elim
      · exact q1.elim
    · exact q1.elim
end
/-! ### match of a text by constant texts -/
abbrev MC : Type := Str → MS
def mcN : MC := fun _ => sNil
def mcC (c : Str) (b : MS) (r : MC) : MC := fun z ρ S => if z = c then b ρ S else r z ρ S
def mcW (b : MS) : MC := fun _ => b
def sMtc (m : ME) (r : MC) : MS := fun ρ S => (m ρ S).bind fun d S1 => match d with
  | .str z => r z ρ S1
  | _ => .no
structure QMC (X : Cx) (cs : List MatchCase) (r : MC) : Prop where
  run : ∀ (z : Str) (t : Tok) (first : Bool) (pins : List (Addr × Obj)) (s : Shared) (σ : L2.St) (H : Hp) (D : Ends), Inv X pins σ H s → tS X (r z) D σ H → wpAny (model X.prog X.w) X.A (matchCases cs X.env (.str z t) first) (SP X pins D) X.xe s
section
variable {X : Cx} {e : Expr} {m : ME} {pos p1 p2 : Pos} {body : List Stmt} {b : MS} {rest : List MatchCase} {r : MC} {c : Str} {j : Nat}
theorem tS_nil {D : Ends} {σ : L2.St} {H : Hp} (h : tS X sNil D σ H) : D.nx σ H := by
  obtain ⟨ρ, S, G, sm, re, q⟩ := h
  exact q G H σ .refl sm re
theorem qm_nil : QMC X [] mcN := ⟨fun z t first pins s σ H D I h => wpAny_matchCases_nil ⟨σ, H, I, tS_nil h⟩⟩
theorem qm_cons (hb : QSs X body b) (hr : QMC X rest r) : QMC X (⟨.MatchValue (.Constant (.str c) j p1) p2, none, body⟩ :: rest) (mcC c b r) := by
  refine ⟨fun z t first pins s σ H D I h => ?_⟩
  refine wpAny_matchCases_cons (wpAny_matchPattern_Value (thn ((pe_str (x := c)).run pins s σ H (fun v H' => v = .str c ∧ H' = H) I ⟨rfl, rfl⟩) fun u s1 w => ?_))
  obtain ⟨v, H1, I1, rv, rfl, rfl⟩ := w
  obtain ⟨t', rfl⟩ : ∃ t', u = Value.str c t' := rv
  refine PyProof.Rows.eq_str (wpAny_truthy_bool ?_)
  obtain ⟨ρ, S, G, sm, re, q⟩ := h
  by_cases hz : z = c
  · subst hz
    rw [beq_self_eq_true, if_pos rfl]
    refine wpAny_assignInOrder_none ?_
    refine hb.run pins s1 σ H1 D I1 ⟨ρ, S, G, sm, re, ?_⟩
    unfold mcC at q
    rw [if_pos rfl] at q
    exact q
  · rw [beq_eq_false_iff_ne.mpr hz, if_neg (by decide)]
    refine hr.run z t false pins s1 σ H1 D I1 ⟨ρ, S, G, sm, re, ?_⟩
    unfold mcC at q
    rw [if_neg hz] at q
    exact q
theorem qs_mtc {cs : List MatchCase} (he : QE X e m) (hr : QMC X cs r) : QS X (.Match e cs pos) (sMtc m r) := by
  refine ⟨fun pins s σ H D I h => ?_⟩
  obtain ⟨ρ, S, G, sm, re, q⟩ := h
  refine wpAny_Match (thn (he.run pins s σ H _ I ⟨ρ, S, G, sm, re, satS.bind q⟩) fun u s1 w => ?_)
  obtain ⟨v, H1, I1, rv, d, S1, G1, le1, sm1, r1, q1⟩ := w
  split at q1
  · rename_i z
    cases r1
    obtain ⟨t, rfl⟩ : ∃ t, u = Value.str z t := rv
    exact hr.run z t true pins s1 σ H1 D I1 ⟨ρ, S1, G1, sm1, re.mono le1.le, q1⟩
  · exact q1.elim
end
/-! ### method calls by names, over a table of classes -/
def MthK (X : Cx) (j n : Nat) (ks : List Str) (m : String) (τ : List (String × Fn)) : Prop := ∀ c F, τ.lookup c = some F → Cls X.K (gaS X.K c) ∧ ∃ f, Meth X.K (gaS X.K c) (Str.ofString m) f ∧ FnKO X.prog X.w X.K X.mg X.base j f n ks F
/-- o.m(k = v, ..) -/
def mtKN (τ : List (String × Fn)) (n : String) (k : Nat) (o : ME) (ms : MA) : ME := fun ρ S => (o ρ S).bind fun x S1 => match insOf S1 x with
  | some (c, fs) => match τ.lookup c with
    | some F => match fs.lookup n with
      | none => (ms ρ S1).bind fun ds S2 => if ds.length = k then F (x :: ds) S2 else .no
      | some _ => .no
    | none => .no
  | none => .no
/-- o.m(e, .., k = v, ..) -/
def mtPK (τ : List (String × Fn)) (n : String) (a k : Nat) (o : ME) (ms ks : MA) : ME := fun ρ S => (o ρ S).bind fun x S1 => match insOf S1 x with
  | some (c, fs) => match τ.lookup c with
    | some F => match fs.lookup n with
      | none => (ms ρ S1).bind fun xs S2 => (ks ρ S2).bind fun ys S3 => if xs.length = a ∧ ys.length = k then F (x :: (xs ++ ys)) S3 else .no
      | some _ => .no
    | none => .no
  | none => .no
section
variable {X : Cx} {e o : Expr} {es : List Expr} {mo : ME} {ms ms2 : MA} {pos apos : Pos} {kws : List Keyword} {ks : List Str} {j : Nat} {pl : Sem Bool}
theorem qe_mtKN {n : String} {τ : List (String × Fn)} (hτ : MthK X j 1 ks n τ) (hr : Room j X.A) (ho : QE X o mo) (ha : QK X kws ms)
    (hall : (backToKw pos (keywordEach kws X.env)).all (·.1.isSome) = true := by rfl) (hks : (backToKw pos (keywordEach kws X.env)).filterMap (·.1) = ks := by rfl)
    (hpl : ((backTo pos (starEach [] X.env)).any (·.1) || (backToKw pos (keywordEach kws X.env)).any (·.1.isNone)) = false := by rfl)
    (ht : eval (.Call (.Attribute o (Str.ofString n) apos) [] kws pos) X.env = (do let ov ← eval o X.env; standAt apos.atName; let (f, first) ← holding [ov] (getMethod ov (Str.ofString n) pl); callWith pos f first (backTo pos (starEach [] X.env)) (backToKw pos (keywordEach kws X.env))) := by rfl) :
    QE X (.Call (.Attribute o (Str.ofString n) apos) [] kws pos) (mtKN τ n ks.length mo ms) := by
  refine ⟨fun pins s σ H Q I z => ?_⟩
  obtain ⟨ρ, S, G, sm, re, h⟩ := z
  refine PySem.W.methodCall_KW (pl := pl) (thn (ho.run pins s σ H _ I ⟨ρ, S, G, sm, re, sat.bind h⟩) fun u s1 k => ?_) ht
  obtain ⟨v, H1, I1, rv, x, S1, G1, le1, sm1, r1, q1⟩ := k
  split at q1
  · rename_i c fs hi
    split at q1
    · rename_i F hF
      split at q1
      · rename_i hl
        obtain ⟨a, dx, ws, rfl, hA, rf⟩ := sm1.ins hi r1
        obtain ⟨hC, g, hM, Ff⟩ := hτ c F hF
        obtain ⟨fd, ps, gg, gV, sp, Fk, hb, hsp⟩ := Ff
        obtain rfl : u = Value.ref a := rv
        refine getmeth_ok I1 hA hC hM (rf.gone hl) ?_
        refine PySem.W.callWith_KW0 (first := [.ref a]) (h₀ := X.base) I1.ok.mod.kin hM.kp hall ?_ hpl
        refine thn (ha.run pos _ s1 σ H1 (fun zs H2 => zs.length = ks.length ∧ spF X.K F (.ref a :: zs) H2 Q (Est X)) I1 ⟨ρ, S1, G1, sm1, re.mono le1.le, (sat.bind (R := Rps X.K) q1).imp fun vs H2 w => ?_⟩) fun ws s3 ⟨zs, H2, I3, rz, l2, q2⟩ => ⟨I3.kIn, ?_⟩
        · obtain ⟨ds, S2, G2, le2, sm2, r2, q2⟩ := w
          split at q2
          · rename_i hl2
            exact ⟨by rw [r2.length]; exact hl2, x :: ds, S2, G2, sm2, .cons (r1.mono le2.le) r2, sat_sp q2⟩
          · exact q2.elim
        · rw [hks]
          exact run_fnN (us := [.ref a]) (vs := [.ref a]) Fk hr hb passE I3 (.cons rfl .nil) rz rfl l2 (hsp [.ref a] zs H2 Q _ q2)
      · exact q1.elim
    · exact q1.elim
  · exact q1.elim
theorem qe_mtPK {n : String} {a : Nat} {τ : List (String × Fn)} (hτ : MthK X j (a + 1) ks n τ) (hr : Room j X.A) (ho : QE X o mo) (ha : QA X (e :: es) ms) (hk : QK X kws ms2)
    (hall : (backToKw pos (keywordEach kws X.env)).all (·.1.isSome) = true := by rfl) (hks : (backToKw pos (keywordEach kws X.env)).filterMap (·.1) = ks := by rfl)
    (he : starEach (e :: es) X.env = (false, eval e X.env) :: starEach es X.env := by rfl)
    (hpl : ((backTo pos (starEach (e :: es) X.env)).any (·.1) || (backToKw pos (keywordEach kws X.env)).any (·.1.isNone)) = false := by rfl)
    (ht : eval (.Call (.Attribute o (Str.ofString n) apos) (e :: es) kws pos) X.env = (do let ov ← eval o X.env; standAt apos.atName; let (f, first) ← holding [ov] (getMethod ov (Str.ofString n) pl); callWith pos f first (backTo pos (starEach (e :: es) X.env)) (backToKw pos (keywordEach kws X.env))) := by rfl) :
    QE X (.Call (.Attribute o (Str.ofString n) apos) (e :: es) kws pos) (mtPK τ n a ks.length mo ms ms2) := by
  refine ⟨fun pins s σ H Q I z => ?_⟩
  obtain ⟨ρ, S, G, sm, re, h⟩ := z
  refine PySem.W.methodCall_KW (pl := pl) (thn (ho.run pins s σ H _ I ⟨ρ, S, G, sm, re, sat.bind h⟩) fun u s1 k => ?_) ht
  obtain ⟨v, H1, I1, rv, x, S1, G1, le1, sm1, r1, q1⟩ := k
  split at q1
  · rename_i c fs hi
    split at q1
    · rename_i F hF
      split at q1
      · rename_i hl
        obtain ⟨a', dx, ws, rfl, hA, rf⟩ := sm1.ins hi r1
        obtain ⟨hC, g, hM, Ff⟩ := hτ c F hF
        obtain ⟨fd, ps, gg, gV, sp, Fk, hb, hsp⟩ := Ff
        obtain rfl : u = Value.ref a' := rv
        refine getmeth_ok I1 hA hC hM (rf.gone hl) ?_
        refine PySem.W.callWith_KW (first := [.ref a']) (h₀ := X.base) I1.ok.mod.kin hM.kp hall (thn (ha.run pos pins s1 σ H1 (fun xs H2 => tA X ms2 σ H2 fun ys H3 => xs.length = a ∧ ys.length = ks.length ∧ spF X.K F (.ref a' :: (xs ++ ys)) H3 Q (Est X)) I1 ⟨ρ, S1, G1, sm1, re.mono le1.le, (sat.bind (R := Rps X.K) q1).imp fun vs H2 w => ?_⟩) fun us s2 ⟨xs, H2, I2, rx, q2⟩ => ?_) hpl he
        · obtain ⟨ds, S2, G2, le2, sm2, r2, q2⟩ := w
          refine ⟨ρ, S2, G2, sm2, (re.mono le1.le).mono le2.le, (sat.bind (R := Rps X.K) q2).imp fun zs H3 w => ?_⟩
          obtain ⟨es2, S3, G3, le3, sm3, r3, q3⟩ := w
          have r2 := r2.mono le3.le
          split at q3
          · rename_i hl2
            exact ⟨by rw [r2.length]; exact hl2.1, by rw [r3.length]; exact hl2.2, x :: (ds ++ es2), S3, G3, sm3, .cons ((r1.mono le2.le).mono le3.le) (r2.append r3), sat_sp q3⟩
          · exact q3.elim
        · refine thn (hk.run pos _ s2 σ H2 _ I2 q2) fun ws s3 ⟨zs, H3, I3, rz, l1, l2, q3⟩ => ⟨I3.kIn, ?_⟩
          rw [hks]
          exact run_fnN (us := .ref a' :: us) (vs := .ref a' :: xs) Fk hr hb passE I3 (.cons rfl rx) rz (congrArg Nat.succ l1) l2 (hsp (.ref a' :: xs) zs H3 Q _ q3)
      · exact q1.elim
    · exact q1.elim
  · exact q1.elim
end
end PV
set_option Elab.async false
set_option linter.all false
set_option maxRecDepth 100000
set_option maxHeartbeats 4000000
/-! P65: d.get(k, x) of a written dict; a module's tuple of constants. -/
namespace PV
open PySem PySem.Spec PyProof.Rows L2 ZL RZ
theorem Rpk.gone {K : PySem.W.Frag} {G : Gh} {es : List (Str × D)} {kvs : List (Key × V)} (r : Rpk K G es kvs) {z : Str} (h : esG es z = none) : valV kvs (.inr z) = none := by
  induction r with
  | nil => rfl
  | @cons x d' v es kvs hv t ih =>
    unfold esG at h
    rw [List.find?_cons] at h
    by_cases q : x = z
    · rw [decide_eq_true q] at h
      cases h
    · rw [decide_eq_false q] at h
      have h1 := ih h
      have ne : ¬ ((Sum.inr x : Key) = .inr z) := fun e => q (Sum.inr.inj e)
      unfold valV at h1 ⊢
      rw [List.find?_cons, decide_eq_false ne]
      exact h1
def gt2E (mo m mx : ME) : ME := fun ρ S => (mo ρ S).bind fun x S1 => match x with
  | .loc n => match S1[n]? with
    | some (.dic _) => (m ρ S1).bind fun y S2 => match y with
      | .str z => (mx ρ S2).bind fun d S3 => match S3[n]? with
        | some (.dic es) => match esG es z with
          | some d' => .ok d' S3
          | none => .ok d S3
        | _ => .no
      | _ => .no
    | _ => .no
  | _ => .no
section
variable {X : Cx}
theorem qe_get2 {o e f : Expr} {mo m mx : ME} {apos cpos : Pos} (hu : X.A.units + 1 < cLine) (ho : QE X o mo) (he : QE X e m) (hf : QE X f mx) (h1 : attributeBase o "get" X.env (eval o X.env) = eval o X.env := by rfl)
    (h2 : ((backTo cpos (starEach [e, f] X.env)).all (fun x => !x.1) && (backToKw cpos (keywordEach [] X.env)).all (fun x => x.1.isSome) && decide (([e, f] : List Expr).length + ([] : List Keyword).length + (if ([] : List Keyword).isEmpty then 0 else 1) < 30)) = true := by rfl)
    (h3 : (apos.endLine == cpos.line) = true := by rfl) (h4 : backTo cpos (starEach [e, f] X.env) = [(false, eval e X.env), (false, eval f X.env)] := by rfl) : QE X (.Call (.Attribute o "get" apos) [e, f] [] cpos) (gt2E mo m mx) :=
  qe_of (pe_dget2 hu ho he hf ⟨h1, h2, h3, h4⟩) fun ρ S G σ H Q sm re h => by
  refine ⟨ρ, S, G, sm, re, (sat.bind h).imp fun v H1 w => ?_⟩
  obtain ⟨x, S1, G1, le1, sm1, r1, q1⟩ := w
  split at q1
  · rename_i n
    split at q1
    · rename_i es0 hn
      obtain ⟨a, kvs, rfl, hf1, ha, rk⟩ := sm1.dic hn r1
      refine ⟨a, rfl, .inl ⟨kvs, .inl ha⟩, ρ, S1, G1, sm1, re.mono le1.le, (sat.bind q1).imp fun v' H2 w => ?_⟩
      obtain ⟨y, S2, G2, le2, sm2, r2, q2⟩ := w
      split at q2
      · rename_i z
        cases r2
        refine ⟨ρ, S2, G2, sm2, (re.mono le1.le).mono le2.le, (sat.bind q2).imp fun v3 H3 w => ?_⟩
        obtain ⟨d, S3, G3, le3, sm3, r3, q3⟩ := w
        split at q3
        · rename_i es hn3
          obtain ⟨a2, kvs3, e2, hf3, ha3, rk3⟩ := sm3.dic hn3 (.loc (le3.le.2 _ _ (le2.le.2 _ _ hf1)))
          have ea : a2 = a := by
            have z1 : G3.f n = some a := le3.le.2 _ _ (le2.le.2 _ _ hf1)
            rw [hf3] at z1
            exact Option.some.inj z1
          subst ea
          refine ⟨_, DGet.k (k := (.inr z : Key)) ha3, ?_⟩
          split at q3
          · rename_i d' hd
            obtain ⟨v4, hv, r4⟩ := rk3.get hd
            rw [hv]
            exact q3 G3 H3 v4 .refl sm3 r4
          · rename_i hd
            rw [rk3.gone hd]
            exact q3 G3 H3 v3 .refl sm3 r3
        · exact q3.elim
      · exact q2.elim
    · exact q1.elim
  · exact q1.elim
/-- a module's tuple of constants -/
theorem qg_tupc {x : Str} {ds : List Cv} {pos : Pos} (hm : X.mg x = some (.ref (He.ga X.K x))) (ht : He.tupB X.K x (ds.map Cv.dv) = true) (hg : Gl X x := by rfl) (hd : (x == ("__debug__" : Str)) = false := by decide) :
    QE X (.Name x pos) (k (.tup (ds.map Cv.d))) :=
  qk_of (pe_glob (v := .ref _) hg hm rfl hd) fun G => .tup (He.tupB_ok ht _) cvs_rps
end
end PV
set_option Elab.async false
set_option linter.all false
set_option maxRecDepth 100000
set_option maxHeartbeats 4000000
/-! P66: x is True, x is False (of truths). -/
namespace PV
open PySem PySem.Spec PyProof.Rows L2 ZL
def isX' (neg : Bool) (g : G2) : G2 := fun x y S => match x, y with
  | .bl a, .bl b => .ok (.bl (neg ^^ decide (a = b))) S
  | x, y => g x y S
section
variable {X : Cx} {g : G2}
theorem of_isB (hg : OpF X (compareOp .Is) g) : OpF X (compareOp .Is) (isX' false g) := fun pins s σ H v w u u' Q I rv rw' ⟨x, y, S, G, sm, rx, ry, h⟩ => by
  unfold isX' at h
  split at h
  · cases rx
    cases ry
    exact op_is_bl pins s σ H _ _ u u' Q I rv rw' ⟨_, _, rfl, rfl, h G H _ .refl sm (by rw [Bool.false_xor]; exact .bl _)⟩
  · exact hg pins s σ H v w u u' Q I rv rw' ⟨_, _, S, G, sm, rx, ry, h⟩
end
end PV
set_option Elab.async false
set_option linter.all false
set_option maxRecDepth 100000
set_option maxHeartbeats 4000000
/-! a head's Hook that tells written dicts, and leaves out the tables of code objects -/
namespace ZH
open PySem PySem.W L2
def obsM (lams : List Str) (chk : Frag → Bool) (fn : List He5.DefA) (ds : Dks) (Ka : Frag) : He.AlT × Bool := (obsY chk fn ds (dropT lams Ka), tabsB lams Ka (dropT lams Ka))
def SaysM (lams : List Str) (chk : Frag → Bool) (fn : List He5.DefA) (ds : Dks) (w : World) (Ka : Frag) : Prop := obsM lams chk fn ds Ka = ((He5.valA fn, ds.map fun d => some (He.keysIn w.params d.2)), true)
section
variable {lams : List Str} {chk : Frag → Bool} {fn : List He5.DefA} {ds : Dks} {w : World} {Ka : Frag}
theorem SaysM.y (c : SaysM lams chk fn ds w Ka) : SaysY chk fn ds w (dropT lams Ka) := congrArg (fun z : He.AlT × Bool => z.1) c
theorem SaysM.t (c : SaysM lams chk fn ds w Ka) : tabsB lams Ka (dropT lams Ka) = true := congrArg (fun z : He.AlT × Bool => z.2) c
end
end ZH
set_option Elab.async false
set_option linter.all false
set_option maxRecDepth 100000
set_option maxHeartbeats 4000000
/-! cls(e, ..), cls a local name; text.upper(), text.count(text) -/
namespace PV
open PySem PySem.Spec PyProof.Rows L2 ZL
section
variable {X : Cx} {o e : Expr} {mo m : ME} {apos pos : Pos}
end
end PV
namespace PV
open PySem PySem.Spec PyProof.Rows L2 ZL
end PV
set_option Elab.async false
set_option linter.all false
set_option maxRecDepth 100000
set_option maxHeartbeats 4000000
/-! C.m(k = v, ..) of a classmethod -/
namespace PV
open PySem PySem.Spec PyProof.Rows L2 ZL
section
variable {X : Cx} {c : String} {F : Fn} {j : Nat} {o : Expr} {mo : ME} {ms : MA} {apos pos : Pos} {m : Str} {p g : Addr} {mc : Value} {pl : Sem Bool} {kws : List Keyword} {ks : List Str}
end
end PV
set_option Elab.async false
set_option linter.all false
set_option maxRecDepth 100000
set_option maxHeartbeats 4000000
/-! len(set(xs)) of any texts -/
namespace PV
open PySem PySem.Spec PyProof.Rows L2 ZL
end PV
set_option Elab.async false
set_option linter.all false
set_option maxRecDepth 100000
set_option maxHeartbeats 4000000
/-! repr of a list whose items are each with {} or with lists -/
namespace PV
open PySem PySem.Spec PyProof.Rows L2 ZL
section
variable {X : Cx} {pins : List (Addr × Obj)} {σ : L2.St} {H : Hp} {s : Shared} {G : Gh}
end
end PV
set_option Elab.async false
set_option linter.all false
set_option maxRecDepth 100000
set_option maxHeartbeats 4000000
namespace PV
open PySem PySem.Spec PyProof.Rows L2 ZL
/-! ### def f(self, *v, k=c): the def's values in the order self, k, the rest -/
noncomputable def dfnK (n : Nat) (b : MS) : Fn := fun ds S => match ds with
  | a :: x :: rest => if rest.length ≤ 1000 then dfn 3 n b [a, x, .tup rest] S else .no
  | _ => .no
/-- called without k -/
def dflK (dv : D) (F : Fn) : Fn := fun ds S => match ds with
  | a :: rest => F (a :: dv :: rest) S
  | _ => .no
/-- a def called with one keyword, whose value stands behind the first one -/
def FnK (P : Program) (w : World) (K : PySem.W.Frag) (mg : Str → Option Value) (base : Heap) (k : Nat) (f : Addr) (kn : Str) (F : Fn) : Prop :=
  ∀ (A : Around) (outer : List Env) (s : Shared) (H : Hp) (ua u : Value) (us : List Value) (vs : List V) (Q : VK) (E : XK), Room k A → Env0 P w K mg base A outer s H → Vals vs (ua :: u :: us) → spF K F vs H Q E →
    codeAny (model P w) A (.call (.ref f) ⟨ua :: us, [(kn, u)]⟩) (CR (L2.CX P w) outer P w H s Q E) s
section
variable {P : Program} {w : World} {K : PySem.W.Frag} {mg : Str → Option Value} {base : Heap} {x qual : Str} {st : Stmt} {f : Addr} {fd : FuncData} {N : List Str} {n j : Nat} {b : MS} {p1 pv kn : Str} {v0 : V} {dv : D}
theorem run_starK {oc kV doc pm cdv ct : Value} {an od : Option Addr} {osl : Array (Option Value)} {sp : Sp} {k : Nat} {ps : List Str}
    (lk : K.lookup f = some ⟨oc, od, .func (PySem.W.fnOf x qual (defArgs st) (defBody st) (defScope st) .none kV doc pm an cdv ct), osl⟩) (hcd : PySem.W.codeIn K cdv qual = true) (S : FnScope N (ps ++ [pv]) (defScope st))
    (hbody : ∀ (A : Around) (outer : List Env) (s : Shared) (H : Hp) (vs : List V) (Q : VK) (E : XK), Room k (A.deeper (envOfC qual (defScope st) s.heap.objs.size f cdv)) → sp vs H Q E →
      ∃ t, PSs (cxOf (L2.CX P w) P w K mg base N qual (defScope st) f cdv A outer s H E) (defBody st) t ∧ t { nx := fun _ H' => Q .non H', rt := Q } (start N vs) H)
    {A : Around} {outer : List Env} {s : Shared} {H : Hp} {args : Args} {ws rest : List V} {u1 u2 : List Value} {Q : VK} {E : XK} (hr : Room (k + 1) A) (e0 : Env0 P w K mg base A outer s H) (r1 : Vals ws u1) (r2 : Vals rest u2) (hl : ws.length = ps.length) (hz : rest.length ≤ sizeLine)
    (hb : ∀ (A' : Around) (Ex : Value → Shared → Prop) (Q' : List (Str × Value) → Shared → Prop), wpAny (model P w) A' (newTuple u2 >>= fun t => pure (ps.zip u1 ++ [(pv, t)])) Q' Ex s → wpAny (model P w) A' (bindArgs (PySem.W.fnOf x qual (defArgs st) (defBody st) (defScope st) .none kV doc pm an cdv ct) args) Q' Ex s)
    (hq : ∀ p, H p = Option.none → sp (ws ++ [V.ref p]) (upd H p (.tup rest)) Q E) : codeAny (model P w) A (.call (.ref f) args) (CR (L2.CX P w) outer P w H s Q E) s := by
  have hn : H s.heap.objs.size = Option.none := e0.hok.fresh (Nat.le_refl _)
  have hl1 : u1.length = ps.length := by rw [← r1.length]; exact hl
  have hl2 : u2.length ≤ sizeLine := by rw [← r2.length]; exact hz
  refine StX.run_bnd lk hcd S hr e0 (G := fun xs H2 => ∃ p, H p = Option.none ∧ xs = ws ++ [V.ref p] ∧ H2 = upd H p (.tup rest)) (fun A' Ex Q' h => ?_) fun s2 H2 xs ⟨p, hp, ex, eH⟩ hr' => ?_
  · refine hb A' Ex Q' (wpAny_bind (wpAny_newTuple (wpAny_pure ?_) hl2))
    have new : ObjOk P w (upd H s.heap.objs.size (.tup rest)) (s.heap.push ({ cls := .type "tuple", data := .seq u2.toArray } : Obj)) s.heap.objs.size (.tup rest) := ⟨hz, u2, r2, ⟨_, Heap.get?_push_size _ rfl, rfl, _, rfl⟩⟩
    have un := StX.un_laid (fs := frs outer) (s := s) (o := ({ cls := .type "tuple", data := .seq u2.toArray } : Obj)) (u := .tup rest) hn
    have z := h _ _ (ws ++ [V.ref s.heap.objs.size]) (u1 ++ [Value.ref s.heap.objs.size]) (StX.env0_laid e0 new) un rfl (fun e s' => StX.cxUp outer s H _ _ E e s' un (fun b o q => Heap.get?_push_of_some _ q) rfl) (r1.append (.cons rfl .nil))
      (by rw [List.length_append, List.length_append, hl] <;> rfl) ⟨_, hn, rfl, rfl⟩
    rw [List.zip_append hl1.symm] at z
    exact z
  · subst ex eH
    exact hbody A outer s2 _ _ Q E hr' (hq p hp)
/-- from a value's places: the promise of dfnK -/
theorem dfnK_at {H : Hp} {vs : List V} {Q : VK} {E : XK} (h : spF K (dfnK n b) vs H Q E) : ∃ a v rest, vs = a :: v :: rest ∧ rest.length ≤ sizeLine ∧ ∀ p, H p = Option.none → spF K (dfn 3 n b) ([a, v] ++ [V.ref p]) (upd H p (.tup rest)) Q E := by
  obtain ⟨ds, S0, G, sm, r, h⟩ := h
  match ds, r, h with
  | [], _, h => exact h.elim
  | [_], _, h => exact h.elim
  | a :: x :: rest, .cons ra (.cons (vs := vr) rx rr), h =>
    have h : spO K G H (if rest.length ≤ 1000 then dfn 3 n b [a, x, .tup rest] S0 else .no) Q E := h
    by_cases c : rest.length ≤ 1000
    · rw [if_pos c] at h
      refine ⟨_, _, _, rfl, ?_, fun p hp => ?_⟩
      · rw [rr.length, sizeLine_eq]
        omega
      · have st := Stp.put (o := .tup vr) sm hp
        exact ⟨_, S0, _, sm.put hp, .cons (ra.mono st.le) (.cons (rx.mono st.le) (.cons (.tup (SqT.of upd_same) (rr.mono st.le)) .nil)), h.mono st⟩
    · rw [if_neg c] at h
      exact h.elim
section
variable (F : FunD K x qual (defArgs st) (defBody st) (defScope st) [] [(kn, v0)] f fd) (S : FnScope N ([p1, kn] ++ [pv]) (defScope st)) (hN : N.length = n)
    (hbody : ∀ (cdv : Value) (A : Around) (outer : List Env) (s : Shared) (H : Hp) (E : XK), Room j (A.deeper (envOfC qual (defScope st) s.heap.objs.size f cdv)) →
      QSs (cxOf (L2.CX P w) P w K mg base N qual (defScope st) f cdv A outer s H E) (defBody st) b)
include F S hN hbody
theorem okFK (hb : ∀ (kV doc pm : Value) (an : Option Addr) (cdv ct : Value) (a u : Value) (rest : List Value),
      bindArgs (PySem.W.fnOf x qual (defArgs st) (defBody st) (defScope st) .none kV doc pm an cdv ct) ⟨a :: rest, [(kn, u)]⟩ = (newTuple rest >>= fun t => pure ([p1, kn].zip [a, u] ++ [(pv, t)]))) : FnK P w K mg base (j + 1) f kn (dfnK n b) := by
  obtain ⟨oc, od, dV, kV, doc, pm, an, cdv, ct, osl, e, lk, hcd, hD, hK⟩ := F.ex
  have dN : dV = .none := by
    rcases hD with ⟨_, q⟩ | ⟨q, _⟩
    · exact q
    · exact absurd rfl q
  subst dN
  subst e
  intro A outer s H ua u us vs Q E hr e0 r h
  obtain ⟨a, v, rest, rfl, hz, hq⟩ := dfnK_at h
  cases r with
  | cons ra r => cases r with
    | cons rv r =>
      exact run_starK (ps := [p1, kn]) (pv := pv) (sp := spF K (dfn 3 n b)) lk hcd S (fun A outer s H vs Q E hr h => ⟨_, hbody cdv A outer s H E hr, body_start (np := 3) (ps := [p1, kn] ++ [pv]) rfl (takes_of rfl rfl rfl rfl) rfl hN h⟩) hr e0 (.cons ra (.cons rv .nil)) r rfl hz
        (fun A' Ex Q' z => by rw [hb]; exact z) hq
theorem okFK0 (rdv : ∀ G, Rp K G dv v0) (hb : ∀ (D : Addr) (doc pm : Value) (an : Option Addr) (cdv ct : Value) (a : Value) (rest : List Value), ∃ (β γ : Type) (k1 : Option Value → Sem β) (k2 : β → Sem γ) (k3 : γ → Sem (List (Str × Value))),
      bindArgs (PySem.W.fnOf x qual (defArgs st) (defBody st) (defScope st) .none (.ref D) doc pm an cdv ct) ⟨a :: rest, []⟩ = ((nsGet D kn >>= k1) >>= k2) >>= k3 ∧ ∀ u, ∃ z, k1 (some u) = pure z ∧ (k2 z >>= k3) = (newTuple rest >>= fun t => pure ([p1, kn].zip [a, u] ++ [(pv, t)]))) :
    FnF P w K mg base (j + 1) f (dflK dv (dfnK n b)) := by
  obtain ⟨oc, od, dV, kV, doc, pm, an, cdv, ct, osl, e, lk, hcd, hD, hK⟩ := F.ex
  have dN : dV = .none := by
    rcases hD with ⟨_, q⟩ | ⟨q, _⟩
    · exact q
    · exact absurd rfl q
  subst dN
  rcases hK with e' | ⟨D, rfl, hq0⟩
  · cases e'
  obtain ⟨u0, hns, ru⟩ := hq0 _ (List.mem_cons_self ..)
  subst e
  intro A outer s H us vs Q E hr e0 r h
  obtain ⟨ds, S0, G, sm, rr, h⟩ := h
  match ds, rr, h with
  | [], _, h => exact h.elim
  | d :: ds, .cons rd rds, h =>
    have h : spF K (dfnK n b) (_ :: v0 :: _) H Q E := ⟨d :: dv :: ds, S0, G, sm, .cons rd (.cons (rdv G) rds), h⟩
    obtain ⟨a, v, rest, e1, hz, hq⟩ := dfnK_at h
    cases e1
    cases r with
    | cons ra r =>
      rename_i ua us
      have KX : K.In s.heap := e0.mod.kin.keeps fun b o e => (e0.bs b o e).1
      refine run_starK (ps := [p1, kn]) (pv := pv) (sp := spF K (dfn 3 n b)) lk hcd S (fun A outer s H vs Q E hr h => ⟨_, hbody cdv A outer s H E hr, body_start (np := 3) (ps := [p1, kn] ++ [pv]) rfl (takes_of rfl rfl rfl rfl) rfl hN h⟩) hr e0 (.cons ra (.cons ru .nil)) r rfl hz
        (fun A' Ex Q' z => ?_) hq
      obtain ⟨β, γ, k1, k2, k3, e2, e3⟩ := hb D doc pm an cdv ct ua us
      obtain ⟨y, e4, e5⟩ := e3 u0
      rw [e2, bind_assoc]
      have L : PySem.W.Looks (model P w) s.heap (nsGet D kn >>= k1) y := (PySem.W.looks_nsIn KX hns).andThen (PySem.W.Looks.of_pure e4)
      refine wpAny_bind (L.here ?_)
      have e6 : (k2 y >>= fun z => k3 z) = (k2 y >>= k3) := rfl
      rw [e6, e5]
      exact z
end
end
/-! ### C(*e, k=e2) -/
section
variable {M : Model} {A : Around} {E : Value → Shared → Prop} {s : Shared}
theorem ks_loneK {f : Value} {x : Sem Value} {pos : Pos} {kws : List (Option Str × Sem Value)} {Q : Args → Shared → Prop} (hall : kws.all (·.1.isSome) = true)
    (h : wpAny M A x (fun v s₁ => wpAny M A (evalAll (kws.map (·.2))) (fun ks s₂ => PySem.W.StarOf M A E v (fun vs s₃ => Q ⟨vs, (kws.filterMap (·.1)).zip ks⟩ s₃) s₂) E s₁) E s) :
    wpAny M A (evalArgs f true [(true, (do let v ← x; standAt pos; pure v))] kws) Q E s := by
  unfold evalArgs
  refine wpAny_bind (wpAny_bind (wpAny_mono h (fun v s₁ h₁ => wpAny_bind (wpAny_standAt (wpAny_pure ?_))) fun _ _ x => x))
  refine wpAny_holding ?_
  simp only [hall, if_true]
  refine wpAny_bind (wpAny_mono h₁ (fun ks s₂ h₂ => ?_) fun _ _ x => x)
  unfold PySem.W.StarOf at h₂
  refine wpAny_bind ?_
  refine wpAny_bind (wpAny_mono h₂ (fun b s₃ h₃ => ?_) fun _ _ x => x)
  obtain ⟨rfl, h₃⟩ := h₃
  have z := fun kp => wpAny_holding (vs := kp) (wpAny_mono h₃ (fun vs s₄ h₄ => (wpAny_pure h₄ : wpAny M A (pure (⟨vs, (kws.filterMap (·.1)).zip ks⟩ : Args)) Q E s₄)) fun _ _ x => x)
  try simp only [Bool.false_eq_true, if_false]
  exact z _
theorem ks_callK {f : Value} {first : List Value} {pos : Pos} {Q : Value → Shared → Prop} {P : Heap → Prop} {args : List (Bool × Sem Value)} {kws : List (Option Str × Sem Value)} (hst : args.any (·.1) = true)
    (hk : ∀ h, P h → ∃ k, (k = Keeper.frame ∨ k = Keeper.machine ∨ k = Keeper.boundFrame) ∧ PySem.W.Looks M h (keeperOf f) k)
    (h : wpAny M A (evalArgs f true args kws) (fun a s₁ => P s₁.heap ∧ wpAny M A (call f (first ++ a.pos) a.kw) Q E s₁) E s) : wpAny M A (callWith pos f first args kws) Q E s := by
  unfold callWith
  refine wpAny_bind (wpAny_holding (wpAny_mono h (fun a s₁ h₁ => wpAny_bind (wpAny_standAt ?_)) fun _ _ x => x))
  obtain ⟨k, hk', L⟩ := hk _ h₁.1
  simp only [hst, Bool.true_or]
  refine wpAny_bind (L.here ?_)
  have tail : ∀ {t : Sem Value}, wpAny M A t Q E s₁ → wpAny M A (t >>= fun r => holding [r] point >>= fun _ => pure r) Q E s₁ :=
    fun ht => wpAny_bind (wpAny_mono ht (fun r s₂ hr => wpAny_bind (wpAny_holding (wpAny_point (wpAny_pure hr)))) fun _ _ x => x)
  have marked (mk : Value) : wpAny M A (callMarked mk f (first ++ a.pos) a.kw) Q E s₁ := by unfold callMarked; exact PySem.Calls.wpAny_keep h₁.2
  rcases hk' with rfl | rfl | rfl <;> dsimp only <;> first | exact tail (marked _) | exact tail (wpAny_operating h₁.2)
theorem callWith_SK {K : PySem.W.Frag} {env : Env} {pos p : Pos} {f : Value} {first : List Value} {Q : Value → Shared → Prop} {h₀ : Heap} {e : Expr} {kws : List Keyword} (_X : K.In h₀) (hk : PySem.W.keepIn K f = true) (hall : (backToKw pos (keywordEach kws env)).all (·.1.isSome) = true)
    (h : wpAny M A (eval e env) (fun v s₁ => wpAny M A (evalAll ((backToKw pos (keywordEach kws env)).map (·.2))) (fun ks s₂ => PySem.W.StarOf M A E v (fun vs s₃ => K.In s₃.heap ∧ wpAny M A (call f (first ++ vs) (((backToKw pos (keywordEach kws env)).filterMap (·.1)).zip ks)) Q E s₃) s₂) E s₁) E s)
    (he : starEach [.Starred e p] env = [(true, eval e env)] := by rfl) :
    wpAny M A (callWith pos f first (backTo pos (starEach [.Starred e p] env)) (backToKw pos (keywordEach kws env))) Q E s := by
  rw [he]
  exact ks_callK rfl (PySem.W.keeps_K hk) (ks_loneK hall h)
end
section
variable {X : Cx} {c : String} {F : Fn} {j : Nat} {f : Addr} {kn x : Str} {sp : Sp}
theorem run_makeFK {pins : List (Addr × Obj)} {σ : L2.St} {H : Hp} {s : Shared} {Q : VK} {C : Addr} {us : List Value} {u : Value} {v : V} {vs : List V} (M : Mk X.K C f) (Ff : FnK X.prog X.w X.K X.mg X.base j f kn F) (hr : Room (j + 1) X.A) (I : Inv X pins σ H s) (rv : RelV v u) (r : Vals vs us)
    (h : ∀ x dx, H x = Option.none → H dx = Option.none → dx ≠ x → spF X.K F (V.ref x :: v :: vs) (upd (upd H dx (.own x)) x (.ins C dx [])) (fun v H2 => v = .non ∧ Q (.ref x) H2) (Est X)) :
    wpAny (model X.prog X.w) X.A (call (.ref C) us [(kn, u)]) (EP X pins σ Q) X.xe s := by
  have hq := h (s.heap.objs.size + 1) s.heap.objs.size (I.hok.fresh (Nat.le_succ _)) (I.hok.fresh (Nat.le_refl _)) (Nat.ne_of_lt (Nat.lt_succ_self _))
  have I2 := Inv.made (C := C) I
  have r2 : Vals (V.ref (s.heap.objs.size + 1) :: v :: vs) (Value.ref (s.heap.objs.size + 1) :: u :: us) := .cons rfl (.cons rv r)
  refine wpAny_call (make_map (f := f) I.kIn M.makes M.init (beq_iff_eq.mp M.fn) (codeAny_mono (Ff _ X.stack _ _ (Value.ref (s.heap.objs.size + 1)) u us _ _ (Est X) (hr.make C us [(kn, u)]) (I2.env0.make C us [(kn, u)]) r2 hq) fun r s' hq' => ?_))
  cases r with
  | error e => exact passE pins σ _ _ e s' I2 hq'
  | ok fl =>
    cases fl with
    | ret u =>
      obtain ⟨v, H', I3, rv, ev, q3⟩ := I2.after hq'
      subst ev
      exact ⟨rv, ⟨V.ref (s.heap.objs.size + 1), H', I3, rfl, q3⟩⟩
    | next => exact False.elim hq'
    | brk => exact False.elim hq'
    | cont => exact False.elim hq'
/-- C(*e, k=e2): first e, then e2, then the items -/
def itemsK (g : Fn) (m m2 : ME) : ME := fun ρ S => (m ρ S).bind fun d S1 => (m2 ρ S1).bind fun y S2 => match d with
  | .lst xs => g (y :: xs) S2
  | .tup xs => g (y :: xs) S2
  | .loc n => match S2[n]? with
    | some (.lst xs) => g (y :: xs) S2
    | _ => .no
  | _ => .no
theorem qe_mkSK {g : Fn} {m m2 : ME} {e e2 : Expr} {p pos sp_ kp : Pos} (hg : MkRd X c F g) (M : Mk X.K (gaS X.K c) f) (Ff : FnK X.prog X.w X.K X.mg X.base j f kn F) (hr : Room (j + 1) X.A) (hm : X.mg (Str.ofString c) = some (.ref (gaS X.K c))) (h : QE X e m) (h2 : QE X e2 m2) (hgl : Gl X (Str.ofString c) := by rfl) (hdb : (Str.ofString c == ("__debug__" : Str)) = false := by decide)
    (hst : starEach [.Starred e sp_] X.env = [(true, eval e X.env)] := by rfl) : QE X (.Call (.Name (Str.ofString c) p) [.Starred e sp_] [⟨some kn, e2, kp⟩] pos) (itemsK g m m2) := by
  refine ⟨fun pins s σ H Q I z => ?_⟩
  obtain ⟨ρ, S, G, sm, re, q⟩ := z
  refine wpAny_Call_Name_kw (ld_glob I hgl hm (callWith_SK (h₀ := X.base) I.ok.mod.kin M.kp rfl ?_ hst) hdb)
  refine thn (h.run pins s σ H _ I ⟨ρ, S, G, sm, re, sat.bind q⟩) fun u s1 k => ?_
  obtain ⟨v, H1, I1, rv, d, S1, G1, le1, sm1, r1, q1⟩ := k
  refine wpAny_evalAll_cons (wpAny_bind (thn (h2.run pins s1 σ H1 _ I1 ⟨ρ, S1, G1, sm1, re.mono le1.le, sat.bind q1⟩) fun u2 s2 k => wpAny_bind (wpAny_standAt (wpAny_pure (wpAny_evalAll_nil ?_)))))
  obtain ⟨v2, H2, I2, rv2, y, S2, G2, le2, sm2, r2, q2⟩ := k
  have r1 := r1.mono le2.le
  cases r1 with
  | lst a b =>
    obtain rfl : u = _ := rv
    exact StX.star_any I2 (.inr (SqL.of (sm2.fr _ _ a))) fun us s3 I3 rr => ⟨I3.kIn, run_makeFK M Ff hr I3 rv2 rr (hg sm2 (.cons r2 b) q2)⟩
  | tup a b =>
    obtain rfl : u = _ := rv
    exact StX.star_any I2 (.inl (SqT.mono a sm2.fr)) fun us s3 I3 rr => ⟨I3.kIn, run_makeFK M Ff hr I3 rv2 rr (hg sm2 (.cons r2 b) q2)⟩
  | loc hf =>
    rename_i n a
    obtain rfl : u = _ := rv
    have q2 : sat X (Rp X.K) G2 H2 (match S2[n]? with | some (.lst xs) => g (y :: xs) S2 | _ => .no) Q := q2
    match hn : S2[n]?, q2 with
    | some (.lst xs), q2 =>
      obtain ⟨a', h1, h2, ws, h3, h4⟩ := sm2.cel n _ hn (by intro z; cases z)
      rw [hf] at h1
      cases h1
      exact StX.star_any I2 (.inr (SqL.of h3)) fun us s3 I3 rr => ⟨I3.kIn, run_makeFK M Ff hr I3 rv2 rr (hg sm2 (.cons r2 h4) q2)⟩
    | some (.ins _ _), q2 => exact q2.elim
    | some .dead, q2 => exact q2.elim
    | none, q2 => exact q2.elim
  | _ => exact q2.elim
end
end PV
set_option Elab.async false
set_option linter.all false
set_option maxRecDepth 100000
set_option maxHeartbeats 4000000
/-! sorted(set(xs)) of ints -/
namespace ZN
open PySem PySem.Spec PyProof.Rows L2
section
variable {P : Program} {w : World} {A : Around} {E : Value → Shared → Prop} {s : Shared}
/-- the set of a list of ints -/
theorem set_of_ints {l : Addr} {its : Array Value} {xs : List Int} {Q : Value → Shared → Prop} (hh : A.handled = none) (hl : s.heap.IsList l its) (hi : PyProof.Rows.IntsAre its.toList xs) (few : xs.length < 4000)
    (h : ∀ (h' : Heap) (tk c : Nat), SetR w h' s.heap.objs.size (fun j => decide (j ∈ xs)) c → c ≤ xs.length → (∀ b o, s.heap.get? b = some o → h'.get? b = some o) → Q (.ref s.heap.objs.size) { s with heap := h', toks := tk }) :
    wpAny (model P w) A (call (.type "set") [.ref l]) Q E s := by
  have len : its.size = xs.length := by
    have z := IntsAre.length hi
    rw [Array.length_toList] at z
    exact z
  obtain ⟨c, tl, hmro⟩ := PySem.F.called_set.mro
  have f1 := PySem.F.called_set.made
  have f2 := PySem.F.called_set.sub
  refine wpAny_call (codeAny_of_tree ?_)
  show wpAny _ _ (callAny (.type "set") _) _ _ _
  refine wpAny_pure ⟨Code.quiet_builtin _ (by decide +kernel), codeAny_builtin PySem.F.entry_type_call ?_⟩
  rw [Around.under_plain (weight_type_call_type "set" [.ref l] []) rfl]
  have f3 := PySem.F.called_set.notType
  have f4 := PySem.F.called_set.canCreate
  have f5 := PySem.F.typeCall_set_1 (.ref l)
  repeat (any_goals (first | assumption | wp_step))
  refine codeAny_mono (code_set_led1 (.ref l) (E := E) (Q₁ := fun x s1 => x = .ref s.heap.objs.size ∧ s1 = { s with heap := s.heap.push { cls := .type "set", dict := none, data := .set #[] 0 (.fresh 0 0 (!w.params.followText "set-order")) } }) ⟨rfl, rfl⟩) fun r s1 hr => ?_
  match r, hr with
  | .error _, hr => exact hr
  | .ok (.ret x), hr =>
    obtain ⟨rfl, rfl⟩ := hr
    obtain ⟨N, hN⟩ : ∃ N, N = s.heap.push { cls := .type "set", dict := none, data := .set #[] 0 (.fresh 0 0 (!w.params.followText "set-order")) } := ⟨_, rfl⟩
    have sz : N.objs.size = s.heap.objs.size + 1 := by rw [hN, Heap.size_push]
    have hS : N.get? s.heap.objs.size = some { cls := .type "set", dict := none, data := .set #[] 0 (.fresh 0 0 (!w.params.followText "set-order")) } := by rw [hN]; exact Heap.get?_push_size _ rfl
    have up : ∀ b o, s.heap.get? b = some o → N.get? b = some o := fun b o e => by rw [hN]; exact Heap.get?_push_of_some _ e
    have hT : Shared.TypeIs { s with heap := N } (.ref s.heap.objs.size) "set" := ⟨_, hS, rfl⟩
    rw [← hN]
    have f6 := PySem.F.called_set.init.lookup
    have f7 := PySem.F.called_set.init.bind (.ref s.heap.objs.size)
    repeat (any_goals (first | assumption | wp_step))
    refine codeAny_mono (codeAny_call_builtin (R := wants (fun r s2 => r = .none ∧ ∃ h' tk c, s2 = { s with heap := h', toks := tk } ∧ SetR w h' s.heap.objs.size (fun j => decide (j ∈ xs)) c ∧ c ≤ xs.length ∧ (∀ b o, s.heap.get? b = some o → h'.get? b = some o)) E)
      PySem.F.called_set.init.plain PySem.F.entry_set_init (check_set_init_1 hT ?_)) fun r2 s2 hr2 => ?_
    · have hl1 : N.IsList l its := by rw [hN]; exact hl.push _
      obtain ⟨ol, hol, hcl, nl, hdl⟩ := hl1
      obtain ⟨ocls, odict, odata, oslots⟩ := ol
      simp only at hcl hdl
      subst hcl hdl
      have hl2 : N.IsList l its := ⟨_, hol, rfl, nl, rfl⟩
      have lS : l < s.heap.objs.size := by
        obtain ⟨o2, e2, _⟩ := hl
        exact Heap.lt_size e2
      have g1 := PySem.F.sub_list_set
      have g2 := PySem.F.sub_list_frozenset
      have g3 : (Value.type "list" == Value.type "dict") = false := by decide
      unfold Builtin.«set.__init__» noKeywords Builtin.Frozenset.updateFrom
      generalize hPI : pyIter = PI
      wp_walk
      subst hPI
      refine wpAny_pyIter_list hl2 (wpAny_bind (wpAny_runValue ?_))
      have h3 : A.in1.in1.in1.handled = none := by simp [hh]
      have ne : l ≠ N.objs.size := by
        rw [sz]
        exact Nat.ne_of_lt (Nat.lt_succ_of_lt lS)
      have out : s.heap.objs.size ∉ [N.objs.size, l] := by
        simp only [List.mem_cons, List.not_mem_nil, or_false, not_or]
        rw [sz]
        exact ⟨Nat.ne_of_lt (Nat.lt_succ_self _), Nat.ne_of_gt lS⟩
      have at_ : ∀ (i : Nat) (v : Value), its[i]? = some v → ∃ k t, xs[i]? = some k ∧ v = .int k t := fun i v hv => by
        have hi' : i < xs.length := by rw [← len]; exact (Array.getElem?_eq_some_iff.mp hv).1
        obtain ⟨t, e⟩ := PyProof.Rows.IntsAre.int_at hi i v (by rw [Array.getElem?_toList]; exact hv)
        exact ⟨xs[i], t, List.getElem?_eq_getElem hi', by rw [e, List.getD_eq_getElem?_getD, List.getElem?_eq_getElem hi'] <;> rfl⟩
      refine set_update_ints ((Walks.list h3 _ l ne its).toS) s.heap.objs.size out xs len (by unfold scanBound; omega) at_ (its.size - 0) 0 _ rfl (Nat.zero_le _) ⟨⟨_, Heap.get?_push_size _ rfl, rfl, rfl⟩, hl2.push _⟩ ?qstart ?qend
      case qstart =>
        exact ⟨0, Nat.le_refl 0, setR_new_at (Heap.get?_push_of_some _ hS)⟩
      case qend =>
        intro s3 c3 mv lc q
        obtain ⟨h', g', d', tk', os'⟩ := s3
        have e1 : g' = s.gens := mv.gens
        have e2 : d' = s.drawn := mv.drawn
        have e3 : os' = s.os := mv.os
        subst e1 e2 e3
        refine wpAny_pure (wpAny_pure ⟨rfl, h', tk', c3, rfl, q, by rw [← len]; exact lc, fun b o e => ?_⟩)
        have hb : b < s.heap.objs.size := Heap.lt_size e
        refine mv.heap b o ?_ (Heap.get?_push_of_some _ (up b o e))
        simp only [List.mem_cons, List.not_mem_nil, or_false, not_or]
        rw [sz]
        exact ⟨Nat.ne_of_lt hb, Nat.ne_of_lt (Nat.lt_succ_of_lt hb)⟩
    · match r2, hr2 with
      | .error _, hr2 => exact hr2
      | .ok (.ret x), hr2 =>
        obtain ⟨rfl, h', tk, c, rfl, q, lc, k⟩ := hr2
        repeat (any_goals (first | assumption | wp_step))
        exact h _ _ _ q lc k
end
/-- strictly ascending, the same members -/
def insU (x : Int) : List Int → List Int
  | [] => [x]
  | y :: l => if x < y then x :: y :: l else if x = y then y :: l else y :: insU x l
def sset (xs : List Int) : List Int := xs.foldr insU []
theorem mem_insU {x k : Int} : ∀ {l : List Int}, k ∈ insU x l ↔ k = x ∨ k ∈ l
  | [] => by simp [insU]
  | y :: l => by
    unfold insU
    split
    · simp
    · split
      · rename_i e; subst e; simp
      · rw [List.mem_cons, List.mem_cons, mem_insU (l := l)]
        constructor
        · rintro (h | h | h) <;> simp [h]
        · rintro (h | h | h) <;> simp [h]
theorem asc_insU {x : Int} : ∀ {l : List Int}, l.Pairwise (· < ·) → (insU x l).Pairwise (· < ·)
  | [], _ => List.pairwise_singleton _ _
  | y :: l, h => by
    obtain ⟨h1, h2⟩ := List.pairwise_cons.mp h
    unfold insU
    split
    · rename_i lt
      refine List.pairwise_cons.mpr ⟨fun z hz => ?_, h⟩
      rcases List.mem_cons.mp hz with e | hz
      · rw [e]; exact lt
      · exact Int.lt_trans lt (h1 z hz)
    · split
      · exact h
      · rename_i a b
        refine List.pairwise_cons.mpr ⟨fun z hz => ?_, asc_insU h2⟩
        rcases mem_insU.mp hz with e | hz
        · rw [e]; omega
        · exact h1 z hz
theorem mem_sset {k : Int} : ∀ {xs : List Int}, k ∈ sset xs ↔ k ∈ xs
  | [] => Iff.rfl
  | x :: xs => by
    show k ∈ insU x (sset xs) ↔ _
    rw [mem_insU, mem_sset (xs := xs), List.mem_cons]
theorem asc_sset : ∀ {xs : List Int}, (sset xs).Pairwise (· < ·)
  | [] => List.Pairwise.nil
  | x :: xs => asc_insU (asc_sset (xs := xs))
theorem asc_eq : ∀ {a b : List Int}, a.Pairwise (· < ·) → b.Pairwise (· < ·) → (∀ k, k ∈ a ↔ k ∈ b) → a = b
  | [], [], _, _, _ => rfl
  | [], y :: b, _, _, m => nomatch (m y).mpr List.mem_cons_self
  | x :: a, [], _, _, m => nomatch (m x).mp List.mem_cons_self
  | x :: a, y :: b, ha, hb, m => by
    obtain ⟨h1, h2⟩ := List.pairwise_cons.mp ha
    obtain ⟨h3, h4⟩ := List.pairwise_cons.mp hb
    have e : x = y := by
      rcases List.mem_cons.mp ((m x).mp List.mem_cons_self) with e | p
      · exact e
      · rcases List.mem_cons.mp ((m y).mpr List.mem_cons_self) with e | q
        · exact e.symm
        · exact absurd (h3 x p) (Int.not_lt.mpr (Int.le_of_lt (h1 y q)))
    subst e
    refine congrArg (x :: ·) (asc_eq h2 h4 fun k => ⟨fun hk => ?_, fun hk => ?_⟩)
    · rcases List.mem_cons.mp ((m k).mp (List.mem_cons_of_mem _ hk)) with e | p
      · exact absurd (h1 k hk) (by rw [e]; exact Int.lt_irrefl _)
      · exact p
    · rcases List.mem_cons.mp ((m k).mpr (List.mem_cons_of_mem _ hk)) with e | p
      · exact absurd (h3 k hk) (by rw [e]; exact Int.lt_irrefl _)
      · exact p
end ZN
set_option Elab.async false
set_option linter.all false
set_option maxRecDepth 100000
set_option maxHeartbeats 4000000
namespace L2
open PySem PySem.Spec PyProof.Rows
/-- sorted(set(xs)), xs a list of ints -/
def tSrtSet (K : PySem.W.Frag) (ta : TE) : TE := fun σ H Q => ta σ H fun x H1 => ∃ l, ∃ xs : List Int, x = .ref l ∧ SqL K H1 l (xs.map V.int) ∧ xs.length < 64 ∧ ∀ p, H1 p = none → Q (.ref p) (upd H1 p (.lst ((ZN.sset xs).map V.int)))
theorem pe_srtSet {X : Cx} {a : Expr} {ta : TE} {p p2 q pos : Pos} (hc : X.calm = true) (hg : Gl X "sorted") (hm : X.mg "sorted" = none) (hg2 : Gl X "set") (hm2 : X.mg "set" = none) (ha : PE X a ta)
    (na : starEach [a] X.env = (false, eval a X.env) :: starEach [] X.env := by rfl) : PE X (.Call (.Name "sorted" p) [.Call (.Name "set" p2) [a] [] q] [] pos) (tSrtSet X.K ta) := by
  refine ⟨fun pins s σ H Q I h => Call_ (ld_blt I hg hm boot_sorted (PyProof.Rows.callWith_builtin1 (PyProof.Rows.args_cons (Call_ (ld_blt I hg2 hm2 boot_set ?_)) rfl) rfl rfl))⟩
  refine PyProof.Rows.callWith_type1 (PyProof.Rows.args_cons (thn (ha.run pins s σ H _ I h) fun v s1 ⟨x, H1, I1, r1, z⟩ => PyProof.Rows.args_nil ?_) na) na rfl
  obtain ⟨l, xs, rfl, hq, few, z⟩ := z
  cases r1
  obtain ⟨its, r, pl, hz⟩ := I1.list hq
  refine ZN.set_of_ints (I1.ok.hd hc) pl.isList (by simpa using r.ints) (by omega) fun h' tk c R lc k => PyProof.Rows.args_nil ?_
  have I2 : Inv X pins σ H1 { s1 with heap := h', toks := tk } := I1.kept k
  refine sorted_set R (I1.ok.hd hc) (by omega) fun s' p out c2 ns k2 g o hp hg hi hs hm hl => ?_
  have e : ns = ZN.sset xs := ZN.asc_eq hs ZN.asc_sset fun j => by rw [hm, ZN.mem_sset]; exact decide_eq_true_iff
  have hlen : (ns.map V.int).length ≤ sizeLine := by rw [List.length_map, hl, sizeLine_eq]; omega
  have hn : H1 p = none := I2.hok.fresh hp
  have J : Inv X pins σ (upd H1 p (.lst (ns.map V.int))) { ({ s1 with heap := h', toks := tk } : Shared) with heap := s'.heap, gens := s'.gens, drawn := s'.drawn, toks := s'.toks } :=
    I2.call (s := { s1 with heap := h', toks := tk }) (ch := []) (Un.laid k2 hp hn) (I2.hok.laid k2 hp ⟨hlen, out.toList, c2, vals_of_ints hi, hg⟩) (by rw [g]; exact I2.bare) (fun _ z => nomatch z)
  have e1 : s' = { s1 with heap := s'.heap, gens := s'.gens, drawn := s'.drawn, toks := s'.toks } := by
    cases s'
    cases s1
    cases o
    rfl
  rw [e1]
  rw [e] at J
  exact ⟨.ref p, _, J, rfl, z p hn⟩
end L2
namespace PV
open PySem PySem.Spec PyProof.Rows L2 ZL
def srtSet (m : ME) : ME := fun ρ S => (m ρ S).bind fun d S1 => match d with
  | .lst xs => match asInts xs with
    | some ns => if ns.length < 64 then .ok (.lst ((ZN.sset ns).map .int)) S1 else .no
    | none => .no
  | _ => .no
theorem rp_ints {K : PySem.W.Frag} {G : Gh} : ∀ ns : List Int, Rps K G (ns.map .int) (ns.map V.int)
  | [] => .nil
  | _ :: ns => .cons (.int _) (rp_ints ns)
theorem qe_srtSet {X : Cx} {a : Expr} {m : ME} {p p2 q pos : Pos} (hm : X.mg "sorted" = none) (hm2 : X.mg "set" = none) (ha : QE X a m) (hc : X.calm = true := by rfl) (hg : Gl X "sorted" := by rfl) (hg2 : Gl X "set" := by rfl)
    (na : starEach [a] X.env = (false, eval a X.env) :: starEach [] X.env := by rfl) : QE X (.Call (.Name "sorted" p) [.Call (.Name "set" p2) [a] [] q] [] pos) (srtSet m) :=
  qe_of (pe_srtSet hc hg hm hg2 hm2 ha na) fun ρ S G σ H Q sm re h => by
  refine ⟨ρ, S, G, sm, re, (sat.bind h).imp fun v H1 w => ?_⟩
  obtain ⟨x, S1, G1, le1, sm1, r1, q1⟩ := w
  split at q1
  · split at q1
    · rename_i xs ns hns
      split at q1
      · rename_i hc
        cases r1 with
        | lst h1 r =>
          rw [asInts_rp hns r] at h1
          refine ⟨_, ns, rfl, SqL.of (sm1.fr _ _ h1), hc, fun p hp => ?_⟩
          have st := Stp.put (o := .lst ((ZN.sset ns).map V.int)) sm1 hp
          exact q1 _ _ _ st (sm1.put hp) (.lst upd_same (rp_ints _))
      · exact q1.elim
    · exact q1.elim
  · exact q1.elim
end PV
set_option Elab.async false
set_option linter.all false
set_option maxRecDepth 100000
set_option maxHeartbeats 4000000
/-! list(zip(xs, ys)) of two lists of one length -/
namespace ZN
open PySem PySem.Spec PyProof.Rows L2
theorem zip_no_len : typeLookup (.type "zip") "__len__" = pure none := am_miss_of_fast (by decide +kernel)
theorem zip_no_hint : typeLookup (.type "zip") "__length_hint__" = pure none := am_miss_of_fast (by decide +kernel)
abbrev lstO (acc : Array Value) (c : Nat) : Obj := { cls := .type "list", dict := none, data := .seq acc c, slots := #[] }
theorem list_init_zip {prog : Program} {w : World} {A : Around} {s : Shared} {R : Result → Shared → Prop} {z TI TO S : Addr} (hz : IsZip s.heap z TI TO .none) (hne : S ≠ z) (hS : s.heap.get? S = some { cls := .type "list", data := .seq #[] })
    (hR : ∀ h', (∀ b o, b ≠ S → s.heap.get? b = some o → h'.get? b = some o) → (∃ c, h'.get? S = some (lstO #[] c)) → codeAny (model prog w) A (.builtin "list.extend.loop" ⟨[.ref S, .ref z, .none], []⟩) R { s with heap := h' }) :
    wpAny (model prog w) A.in1 (Builtin.«list.__init__» ⟨[.ref S, .ref z], []⟩)
      (fun fin s' => match fin with | .done f => R (.ok f) s' | .again c' => c'.quiet = true ∧ codeAny (model prog w) A c' R s') (fun e s' => R (.error e) s') s := by
  show wpAny _ _ (do let old ← Builtin.List.listItems (.ref S); Builtin.List.listUpdate (.ref S) (fun _ => #[]); letGo old.toList.reverse; Builtin.List.listExtendWith (.ref S) (.ref z) .none) _ _ s
  refine wpAny_bind ?_
  unfold Builtin.List.listItems
  refine wpAny_bind (wpAny_seqItems hS rfl (wpAny_pure ?_))
  show wpAny _ _ (updateSeq S (fun _ => #[]) >>= fun _ => letGo (#[] : Array Value).toList.reverse >>= fun _ => Builtin.List.listExtendWith (.ref S) (.ref z) .none) _ _ s
  refine wpAny_bind (wpAny_updateSeq hS rfl ?_)
  have hS2 := Heap.get?_update_self (Obj.mapSeq (fun _ => (#[] : Array Value))) hS rfl
  have oth : ∀ b o, b ≠ S → s.heap.get? b = some o → (s.heap.update S (Obj.mapSeq (fun _ => (#[] : Array Value)))).get? b = some o :=
    fun b o hb e => (Heap.get?_update_other _ _ (Ne.symm hb)).trans e
  have hz2 : IsZip (s.heap.update S (Obj.mapSeq (fun _ => (#[] : Array Value)))) z TI TO .none := oth z _ (Ne.symm hne) hz
  refine wpAny_bind (wpAny_letGo ?_)
  unfold Builtin.List.listExtendWith
  refine wpAny_bind (wpAny_typeOf (T := "zip") ⟨_, hz2, rfl⟩ ?_)
  have h1 : Builtin.List.listSameRef (.ref S) (.ref z) = false := by simp [Builtin.List.listSameRef, hne]
  have h2 : (Value.type "zip" == Value.type "list") = false := by decide
  have h3 : (Value.type "zip" == Value.type "tuple") = false := by decide
  simp only [h1, h2, h3, Bool.or_false, Bool.false_eq_true, if_false]
  refine wpAny_bind (wpAny_pyIter_zip hz2 ?_)
  refine wpAny_bind (wpAny_holding ?_)
  unfold Builtin.List.listLengthHint
  refine wpAny_bind (wpAny_specialOf ⟨_, hz2, rfl⟩ zip_no_len ?_)
  show wpAny _ A.in1 (specialOf (Value.ref z) (Str.ofString "__length_hint__") >>= _) _ _ _
  refine wpAny_bind (wpAny_specialOf ⟨_, hz2, rfl⟩ zip_no_hint ?_)
  refine wpAny_pure ?_
  show wpAny _ A.in1 (rule "list.extend.makes-room" >>= fun _ => Builtin.List.listTouch (.ref S) >>= fun _ =>
    again (.builtin "list.extend.loop" ⟨[.ref S, .ref z, .none], []⟩)) _ _ _
  refine wpAny_bind (wpAny_rule ?_)
  refine wpAny_bind ?_
  show wpAny _ A.in1 (updateSeq S (·.push .none) >>= fun _ => updateSeq S (·.pop)) _ _ _
  refine wpAny_bind (wpAny_updateSeq hS2 rfl ?_)
  have hS3 := Heap.get?_update_self (Obj.mapSeq (·.push Value.none)) hS2 rfl
  refine wpAny_updateSeq hS3 rfl ?_
  have hS4 := Heap.get?_update_self (Obj.mapSeq (·.pop)) hS3 rfl
  exact wpAny_pure ⟨plainId_quiet F.plain_extend_loop _, hR _ (fun b o hb e => (Heap.get?_update_other _ _ (Ne.symm hb)).trans ((Heap.get?_update_other _ _ (Ne.symm hb)).trans (oth b o hb e))) ⟨_, hS4⟩⟩
/-- the pairs that were made, one after another -/
inductive Lay : Hp → List V → List V → List V → Hp → Prop
  | nil {H : Hp} : Lay H [] [] [] H
  | snoc {H H1 : Hp} {ts xs ys : List V} {t : Addr} {x y : V} (h : Lay H ts xs ys H1) (e : H1 t = none) : Lay H (ts ++ [V.ref t]) (xs ++ [x]) (ys ++ [y]) (upd H1 t (.tup [x, y]))
theorem adopt {X : Cx} {pins : List (Addr × Obj)} {σ : L2.St} {H : Hp} {s : Shared} {S : Addr} {acc : Array Value} {c : Nat} {ts : List V} (I : Inv X pins σ H s) (f : FpOk X pins H S) (hS : s.heap.get? S = some (lstO acc c)) (rt : Vals ts acc.toList) (hl : ts.length ≤ sizeLine) :
    Inv X pins σ (upd H S (.lst ts)) s := by
  have hn : H S = none := f.1
  exact I.step (g' := s.gens) (d' := s.drawn) (t' := s.toks) (h' := s.heap) (ch := [S]) (fun b hb => by rw [List.mem_singleton.mp hb]; exact ⟨f.2.2.2.1, f.2.1, f.2.2.2.2.1, f.2.2.2.2.2⟩) (fun b o _ _ _ e _ => e) (fun b o _ _ _ e _ => ⟨o.slots, e⟩)
    (fun b o hb _ n => by rw [upd_ne (fun z => hb (by simp [z]))]; exact n) (fun b o _ e => ⟨o, e⟩) (fun b xs e => by rw [upd_ne (ne_of_none e hn)]; exact e) (fun b o u e => by rw [upd_ne (ne_of_none e hn)]; exact e) (fun b ps e => ⟨#[], by rw [upd_ne (ne_of_none e hn), e]; simp⟩)
    (fun _ h => h) (fun b u e => by
      by_cases hb : b = S
      · subst hb
        rw [upd_same] at e
        cases e
        exact ⟨hl, acc.toList, c, rt, by rw [hS]⟩
      · rw [upd_ne hb] at e
        exact (I.hok b u e).stay (fun _ _ _ z => z) (fun d z => by rw [upd_ne (ne_of_none z hn)]; exact z) fun d xs z => by rw [upd_ne (ne_of_none z hn)]; exact z) I.bare
theorem fpOk_upd {X : Cx} {pins : List (Addr × Obj)} {H : Hp} {b T : Addr} {o : HO} (h : FpOk X pins H b) (ne : b ≠ T) : FpOk X pins (upd H T o) b := ⟨by rw [upd_ne ne]; exact h.1, h.2⟩
theorem sql_upd {K : PySem.W.Frag} {H : Hp} {a T : Addr} {o : HO} {xs : List V} (h : SqL K H a xs) (e : H T = none) : SqL K (upd H T o) a xs := by
  have up : ∀ b u, H b = some u → upd H T o b = some u := fun b u q => by rw [upd_ne (ne_of_none q e)]; exact q
  rcases h with (h | ⟨u, h⟩) | h
  · exact .inl (.inl (up _ _ h))
  · exact .inl (.inr ⟨u, up _ _ h⟩)
  · exact .inr h
theorem Lay.len {H H' : Hp} {ts xs ys : List V} (h : Lay H ts xs ys H') : ts.length = xs.length := by
  induction h with
  | nil => rfl
  | snoc _ _ ih => simp [ih]
theorem take_snoc {α : Type} {xs : List α} {i : Nat} {x : α} (h : xs[i]? = some x) : xs.take (i + 1) = xs.take i ++ [x] := by
  rw [List.take_add_one, h]
  rfl
section
variable {X : Cx} {pins : List (Addr × Obj)} {σ : L2.St} {A : Around} {R : Result → Shared → Prop} {z TI TO i1 i2 a b S : Addr} {xs ys : List V} {H0 : Hp} {res : Value}
/-- from the second turn on -/
theorem zip_drain (hA : A.in1.handled = none) (D : ZipApart z TI TO i1 i2 a b) (hl : xs.length = ys.length) (few : xs.length ≤ 4000) (Sne : S ≠ z ∧ S ≠ TI ∧ S ≠ i1 ∧ S ≠ i2)
    (hR : ∀ s H acc c ts, Inv X pins σ H s → s.heap.get? S = some (lstO acc c) → Vals ts acc.toList → Lay H0 ts xs ys H → FpOk X pins H S → R (.ok (.ret res)) s) :
    ∀ (k i : Nat) (s : Shared) (H : Hp) (acc : Array Value) (c : Nat) (ts : List V) (T : Addr) (f : Bool), xs.length - i = k → i ≤ xs.length → Inv X pins σ H s → (∀ d ∈ [S, z, TI, i1, i2], FpOk X pins H d) →
    IsZipHeld s.heap z TI TO T f → (∃ o, H T = some o) → (∃ o, s.heap.get? T = some o) → IsPair s.heap TI (.ref i1) (.ref i2) → s.heap.IsListIter i1 a i → s.heap.IsListIter i2 b i → SqL X.K H a xs → SqL X.K H b ys →
    s.heap.get? S = some (lstO acc c) → Vals ts acc.toList → acc.size = i → Lay H0 ts (xs.take i) (ys.take i) H →
    codeAny (model X.prog X.w) A (.builtin "list.extend.loop" ⟨[.ref S, .ref z, res], []⟩) R s := by
  intro k
  induction k with
  | zero =>
    intro i s H acc c ts T f hk hi I hf hz hT0 hT hTI h1 h2 hqa hqb hS rt hsz L
    obtain ⟨oT, hT⟩ := hT
    have hin : i = xs.length := by omega
    subst hin
    refine codeAny_builtin F.entry_extend_loop ?_
    rw [Around.under_plainId F.plain_extend_loop _]
    show wpAny _ A.in1 (pyNext (.ref z) >>= _) _ _ s
    obtain ⟨its, rv, p, _⟩ := I.list hqa
    obtain ⟨its2, rv2, p2, _⟩ := I.list hqb
    have l1 := rv.length
    refine wpAny_bind (wpAny_pyNext_zip_end_held hA D hz hT hTI h1 h2 p.isList p2.isList (.inl (by simp; omega)) fun h' hk' => ?_)
    have hS' : h'.get? S = some (lstO acc c) := hk' _ _ Sne.1 Sne.2.2.1 Sne.2.2.2 hS
    have I1 : Inv X pins σ H { s with heap := h' } := I.turnedL (t' := s.toks) (ch := [z, i1, i2]) (fun d o hb q => hk' d o (fun q' => hb (by simp [q'])) (fun q' => hb (by simp [q'])) (fun q' => hb (by simp [q'])) q)
      (fun d hd => hf d (by simp only [List.mem_cons, List.not_mem_nil, or_false] at hd ⊢; rcases hd with h | h | h <;> simp [h]))
    rw [List.take_length, List.take_of_length_le (by omega)] at L
    exact wpAny_pure (hR _ H acc c ts I1 hS' rt L (hf S (by simp)))
  | succ k ih =>
    intro i s H acc c ts T f hk hi I hf hz hT0 hT hTI h1 h2 hqa hqb hS rt hsz L
    obtain ⟨oT, hT⟩ := hT
    refine codeAny_builtin F.entry_extend_loop ?_
    rw [Around.under_plainId F.plain_extend_loop _]
    show wpAny _ A.in1 (pyNext (.ref z) >>= _) _ _ s
    obtain ⟨its, rv, p, _⟩ := I.list hqa
    obtain ⟨its2, rv2, p2, _⟩ := I.list hqb
    have hx : xs[i]? = some xs[i] := List.getElem?_eq_getElem (by omega)
    have hy : ys[i]? = some ys[i] := List.getElem?_eq_getElem (by omega)
    generalize xs[i] = x at hx
    generalize ys[i] = y at hy
    obtain ⟨u, hu, ru⟩ := rv.get hx
    obtain ⟨u2, hu2, ru2⟩ := rv2.get hy
    refine wpAny_bind (wpAny_pyNext_zip_item_held D hz hT hTI h1 h2 p.isList p2.isList (x := u) (y := u2) (by simpa using hu) (by simpa using hu2) fun h' z' h1' h2' hP hs' hk' => ?_)
    have hS' : h'.get? S = some (lstO acc c) := hk' _ _ Sne.1 Sne.2.2.1 Sne.2.2.2 hS
    have new : ObjOk X.prog X.w (upd H s.heap.objs.size (.tup [x, y])) h' s.heap.objs.size (.tup [x, y]) :=
      ⟨by show 2 ≤ sizeLine; decide, [u, u2], .cons ru (.cons ru2 .nil), ⟨_, hP, rfl, _, rfl⟩⟩
    have I1 : Inv X pins σ (upd H s.heap.objs.size (.tup [x, y])) { s with heap := h' } := I.turnedNew (t' := s.toks) (ch := [z, i1, i2]) (fun d o hb q => hk' d o (fun q' => hb (by simp [q'])) (fun q' => hb (by simp [q'])) (fun q' => hb (by simp [q'])) q)
      (fun d hd => hf d (by simp only [List.mem_cons, List.not_mem_nil, or_false] at hd ⊢; rcases hd with h | h | h <;> simp [h])) (Nat.le_refl _) new
    have lt : ∀ d ∈ [S, z, TI, i1, i2], d < s.heap.objs.size := fun d hd => by
      simp only [List.mem_cons, List.not_mem_nil, or_false] at hd
      rcases hd with rfl | rfl | rfl | rfl | rfl
      · exact Heap.lt_size hS
      · exact Heap.lt_size hz
      · exact Heap.lt_size hTI
      · obtain ⟨_, e, _⟩ := h1; exact Heap.lt_size e
      · obtain ⟨_, e, _⟩ := h2; exact Heap.lt_size e
    have hfr : H s.heap.objs.size = none := I.hok.fresh (Nat.le_refl _)
    have hSf : FpOk X pins (upd H s.heap.objs.size (.tup [x, y])) S := fpOk_upd (hf S (by simp)) (Nat.ne_of_lt (lt S (by simp)))
    show wpAny _ A.in1 (updateSeq S (·.push (.ref s.heap.objs.size)) >>= _) _ _ _
    refine wpAny_bind ?_
    have o2 : ∀ d o, d ≠ S → h'.get? d = some o → (h'.update S (Obj.mapSeq (·.push (.ref s.heap.objs.size)))).get? d = some o := fun d o hd e => (Heap.get?_update_other _ _ (Ne.symm hd)).trans e
    have I2 : Inv X pins σ (upd H s.heap.objs.size (.tup [x, y])) { s with heap := h'.update S (Obj.mapSeq (·.push (.ref s.heap.objs.size))) } := Inv.turnedL (s := { s with heap := h' }) (t' := s.toks) (ch := [S]) I1 (fun d o hd e => o2 d o (fun q => hd (by simp [q])) e)
      (fun d hd => by rw [List.mem_singleton.mp hd]; exact hSf)
    refine wpAny_updateSeq hS' rfl (wpAny_pure ⟨plainId_quiet F.plain_extend_loop _, ?_⟩) (by rw [sizeLine_eq]; omega) (by show (acc.push _).size ≤ sizeLine + 1; rw [Array.size_push, sizeLine_eq]; omega)
    refine ih (i + 1) _ (upd H s.heap.objs.size (.tup [x, y])) (acc.push (.ref s.heap.objs.size)) _ (ts ++ [V.ref s.heap.objs.size]) T true (by omega) (by omega) I2 (fun d hd => ?_) ?_ ?_ ?_ ?_ ?_ ?_ (sql_upd hqa hfr) (sql_upd hqb hfr) (Heap.get?_update_self _ hS' rfl) ?_ (by rw [Array.size_push, hsz]) ?_
    · exact fpOk_upd (hf d hd) (Nat.ne_of_lt (lt d hd))
    · exact o2 _ _ Sne.1.symm z'
    · obtain ⟨o, ho⟩ := hT0
      exact ⟨o, by rw [upd_ne (ne_of_none ho hfr)]; exact ho⟩
    · obtain ⟨o, ho⟩ := hT0
      have nT : ∀ d ∈ [S, z, i1, i2], T ≠ d := fun d hd q => by
        have := (hf d (by simp only [List.mem_cons, List.not_mem_nil, or_false] at hd ⊢; rcases hd with h | h | h | h <;> simp [h])).1
        rw [← q, ho] at this
        cases this
      exact ⟨oT, o2 _ _ (nT S (by simp)) (hk' _ _ (nT z (by simp)) (nT i1 (by simp)) (nT i2 (by simp)) hT)⟩
    · exact o2 _ _ Sne.2.1.symm (hk' _ _ D.TIz D.TIi1 D.TIi2 hTI)
    · exact h1'.at fun o q => o2 _ _ Sne.2.2.1.symm q
    · exact h2'.at fun o q => o2 _ _ Sne.2.2.2.symm q
    · rw [Array.toList_push]
      exact rt.append (.cons rfl .nil)
    · rw [take_snoc hx, take_snoc hy]
      exact L.snoc hfr
/-- from the start on -/
theorem zip_drain0 (hA : A.in1.handled = none) (D : ZipApart z TI TO i1 i2 a b) (hl : xs.length = ys.length) (few : xs.length ≤ 4000) (Sne : S ≠ z ∧ S ≠ TI ∧ S ≠ i1 ∧ S ≠ i2 ∧ S ≠ TO)
    (hR : ∀ s H acc c ts, Inv X pins σ H s → s.heap.get? S = some (lstO acc c) → Vals ts acc.toList → Lay H0 ts xs ys H → FpOk X pins H S → R (.ok (.ret res)) s)
    {s : Shared} {c : Nat} {p q : Value} (I : Inv X pins σ H0 s) (hf : ∀ d ∈ [S, z, TI, i1, i2, TO], FpOk X pins H0 d) (hz : IsZip s.heap z TI TO .none) (hTI : IsPair s.heap TI (.ref i1) (.ref i2)) (hTO : IsPair s.heap TO p q)
    (h1 : s.heap.IsListIter i1 a 0) (h2 : s.heap.IsListIter i2 b 0) (hqa : SqL X.K H0 a xs) (hqb : SqL X.K H0 b ys) (hS : s.heap.get? S = some (lstO #[] c)) :
    codeAny (model X.prog X.w) A (.builtin "list.extend.loop" ⟨[.ref S, .ref z, res], []⟩) R s := by
  refine codeAny_builtin F.entry_extend_loop ?_
  rw [Around.under_plainId F.plain_extend_loop _]
  show wpAny _ A.in1 (pyNext (.ref z) >>= _) _ _ s
  obtain ⟨its, rv, p1, _⟩ := I.list hqa
  obtain ⟨its2, rv2, p2, _⟩ := I.list hqb
  have l1 := rv.length
  have sub : ∀ d ∈ [z, TO, i1, i2], d ∈ [S, z, TI, i1, i2, TO] := fun d hd => by simp only [List.mem_cons, List.not_mem_nil, or_false] at hd ⊢; rcases hd with h | h | h | h <;> simp [h]
  by_cases h0 : xs.length = 0
  · obtain rfl : xs = [] := List.eq_nil_of_length_eq_zero h0
    obtain rfl : ys = [] := List.eq_nil_of_length_eq_zero (by omega)
    refine wpAny_bind (wpAny_pyNext_zip_end hA D hz hTI hTO h1 h2 p1.isList p2.isList (.inl (by rw [List.eq_nil_of_length_eq_zero (show its.length = 0 from l1.symm)]; rfl)) fun h' hk' => ?_)
    have hS' : h'.get? S = some (lstO #[] c) := hk' _ _ Sne.1 Sne.2.2.2.2 Sne.2.2.1 Sne.2.2.2.1 hS
    have I1 : Inv X pins σ H0 { s with heap := h' } := I.turnedL (t' := s.toks) (ch := [z, TO, i1, i2]) (fun d o hb q => hk' d o (fun q' => hb (by simp [q'])) (fun q' => hb (by simp [q'])) (fun q' => hb (by simp [q'])) (fun q' => hb (by simp [q'])) q)
      (fun d hd => hf d (sub d hd))
    exact wpAny_pure (hR _ H0 #[] c [] I1 hS' .nil .nil (hf S (by simp)))
  · have hx : xs[0]? = some xs[0] := List.getElem?_eq_getElem (by omega)
    have hy : ys[0]? = some ys[0] := List.getElem?_eq_getElem (by omega)
    generalize xs[0] = x at hx
    generalize ys[0] = y at hy
    obtain ⟨u, hu, ru⟩ := rv.get hx
    obtain ⟨u2, hu2, ru2⟩ := rv2.get hy
    refine wpAny_bind (wpAny_pyNext_zip_item D hz hTI hTO h1 h2 p1.isList p2.isList (x := u) (y := u2) (by simpa using hu) (by simpa using hu2) fun h' z' TO' h1' h2' hP hs' hk' => ?_)
    have hS' : h'.get? S = some (lstO #[] c) := hk' _ _ Sne.1 Sne.2.2.2.2 Sne.2.2.1 Sne.2.2.2.1 hS
    have new : ObjOk X.prog X.w (upd H0 s.heap.objs.size (.tup [x, y])) h' s.heap.objs.size (.tup [x, y]) :=
      ⟨by show 2 ≤ sizeLine; decide, [u, u2], .cons ru (.cons ru2 .nil), ⟨_, hP, rfl, _, rfl⟩⟩
    have I1 : Inv X pins σ (upd H0 s.heap.objs.size (.tup [x, y])) { s with heap := h' } := I.turnedNew (t' := s.toks) (ch := [z, TO, i1, i2]) (fun d o hb q => hk' d o (fun q' => hb (by simp [q'])) (fun q' => hb (by simp [q'])) (fun q' => hb (by simp [q'])) (fun q' => hb (by simp [q'])) q)
      (fun d hd => hf d (sub d hd)) (Nat.le_refl _) new
    have lt : ∀ d ∈ [S, z, TI, i1, i2], d < s.heap.objs.size := fun d hd => by
      simp only [List.mem_cons, List.not_mem_nil, or_false] at hd
      rcases hd with rfl | rfl | rfl | rfl | rfl
      · exact Heap.lt_size hS
      · exact Heap.lt_size hz
      · exact Heap.lt_size hTI
      · obtain ⟨_, e, _⟩ := h1; exact Heap.lt_size e
      · obtain ⟨_, e, _⟩ := h2; exact Heap.lt_size e
    have hfr : H0 s.heap.objs.size = none := I.hok.fresh (Nat.le_refl _)
    have hSf : FpOk X pins (upd H0 s.heap.objs.size (.tup [x, y])) S := fpOk_upd (hf S (by simp)) (Nat.ne_of_lt (lt S (by simp)))
    show wpAny _ A.in1 (updateSeq S (·.push (.ref s.heap.objs.size)) >>= _) _ _ _
    refine wpAny_bind ?_
    have o2 : ∀ d o, d ≠ S → h'.get? d = some o → (h'.update S (Obj.mapSeq (·.push (.ref s.heap.objs.size)))).get? d = some o := fun d o hd e => (Heap.get?_update_other _ _ (Ne.symm hd)).trans e
    have I2 : Inv X pins σ (upd H0 s.heap.objs.size (.tup [x, y])) { s with heap := h'.update S (Obj.mapSeq (·.push (.ref s.heap.objs.size))) } := Inv.turnedL (s := { s with heap := h' }) (t' := s.toks) (ch := [S]) I1 (fun d o hd e => o2 d o (fun q => hd (by simp [q])) e)
      (fun d hd => by rw [List.mem_singleton.mp hd]; exact hSf)
    refine wpAny_updateSeq hS' rfl (wpAny_pure ⟨plainId_quiet F.plain_extend_loop _, ?_⟩)
    have hlt : S < s.heap.objs.size := lt S (by simp)
    refine zip_drain hA D hl few ⟨Sne.1, Sne.2.1, Sne.2.2.1, Sne.2.2.2.1⟩ hR (xs.length - 1) 1 _ (upd H0 s.heap.objs.size (.tup [x, y])) (#[].push (.ref s.heap.objs.size)) _ ([] ++ [V.ref s.heap.objs.size]) s.heap.objs.size false rfl (by omega) I2 (fun d hd => fpOk_upd (hf d (by simp only [List.mem_cons, List.not_mem_nil, or_false] at hd ⊢; rcases hd with h | h | h | h | h <;> simp [h])) (Nat.ne_of_lt (lt d hd)))
      (o2 _ _ Sne.1.symm z') ⟨_, upd_same⟩ ⟨_, o2 _ _ (Nat.ne_of_gt hlt) hP⟩ (o2 _ _ Sne.2.1.symm (hk' _ _ D.TIz D.TITO D.TIi1 D.TIi2 hTI)) (h1'.at fun o q => o2 _ _ Sne.2.2.1.symm q) (h2'.at fun o q => o2 _ _ Sne.2.2.2.1.symm q) (sql_upd hqa hfr) (sql_upd hqb hfr) (Heap.get?_update_self _ hS' rfl) (by rw [Array.toList_push]; exact .cons rfl .nil) rfl ?_
    rw [take_snoc hx, take_snoc hy]
    exact Lay.nil.snoc hfr
end
end ZN
namespace L2
open PySem PySem.Spec PyProof.Rows
/-- list(zip(e, e2)) -/
def tLz (K : PySem.W.Frag) (ta : TA) : TE := fun σ H Q => ta σ H fun vs H1 => ∃ a b xs ys, vs = [V.ref a, V.ref b] ∧ SqL K H1 a xs ∧ SqL K H1 b ys ∧ xs.length = ys.length ∧ xs.length ≤ 4000 ∧
  ∀ ts H2 p, ZN.Lay H1 ts xs ys H2 → H2 p = none → Q (.ref p) (upd H2 p (.lst ts))
theorem pe_lz {X : Cx} {e e2 : Expr} {ta : TA} {p p2 q pos : Pos} (hc : X.calm = true) (hg : Gl X "list") (hm : X.mg "list" = none) (hg2 : Gl X "zip") (hm2 : X.mg "zip" = none) (ha : PA X [e, e2] ta)
    (hs : starEach [e, e2] X.env = (false, eval e X.env) :: starEach [e2] X.env := by rfl) (hpl : (backTo q (starEach [e2] X.env)).any (·.1) = false := by rfl) :
    PE X (.Call (.Name "list" p) [.Call (.Name "zip" p2) [e, e2] [] q] [] pos) (tLz X.K ta) := by
  refine ⟨fun pins s σ H Q I h => Call_ (ld_blt I hg hm PyProof.Rows.boot_list (PyProof.Rows.callWith_type1 (PyProof.Rows.args_cons (Call_ (ld_blt I hg2 hm2 PyProof.Rows.boot_zip ?_)) rfl) rfl rfl))⟩
  refine PyProof.Rows.callWith_type1 (thn (ha.run q pins s σ H _ I h) fun us s1 ⟨vs, H1, I1, r1, q1⟩ => ?_) hs hpl
  obtain ⟨a, b, xs, ys, ex, hqx, hqy, hl, few, q1⟩ := q1
  subst ex
  cases r1 with
  | cons r rr =>
  cases rr with
  | cons r' rr =>
  cases rr
  cases r
  cases r'
  obtain ⟨its, rv, p1, _⟩ := I1.list hqx
  obtain ⟨its2, rv2, p2', _⟩ := I1.list hqy
  refine call_zip_2 p1.isList p2'.isList fun h' hz hTI hTO h1 h2 hsz hk => PyProof.Rows.args_nil ?_
  have I2 : Inv X pins σ H1 { s1 with heap := h' } := I1.kept (t' := s1.toks) hk
  generalize hz0 : s1.heap.objs.size + 4 = z at hz
  refine callType_codes (Q₁ := fun obj s₁ => obj = .ref h'.objs.size ∧ s₁ = { s1 with heap := h'.push { cls := .type "list", data := .seq #[] } }) F.called_list (F.typeCall_list_1 _) F.entry_list_init
    (code_list_new _ ⟨rfl, rfl⟩) fun obj s₁ h₁ => ?_
  obtain ⟨rfl, rfl⟩ := h₁
  have hS : (h'.push { cls := .type "list", data := .seq #[] }).get? h'.objs.size = some { cls := .type "list", data := .seq #[] } := Heap.get?_push_size _ rfl
  have up : ∀ d o, h'.get? d = some o → (h'.push { cls := .type "list", data := .seq #[] }).get? d = some o := fun d o e => Heap.get?_push_of_some _ e
  have I3 : Inv X pins σ H1 { s1 with heap := h'.push { cls := .type "list", data := .seq #[] } } := I2.kept (t' := s1.toks) up
  have ltz : z < h'.objs.size := Heap.lt_size hz
  have ltTI : s1.heap.objs.size + 2 < h'.objs.size := Heap.lt_size hTI
  have ltTO : s1.heap.objs.size + 3 < h'.objs.size := Heap.lt_size hTO
  have lti1 : s1.heap.objs.size < h'.objs.size := by rw [hsz]; omega
  have lti2 : s1.heap.objs.size + 1 < h'.objs.size := by rw [hsz]; omega
  have D : ZipApart z (s1.heap.objs.size + 2) (s1.heap.objs.size + 3) s1.heap.objs.size (s1.heap.objs.size + 1) a b := by rw [← hz0]; exact PySem.W.ktu_apart s1.heap.objs.size a b p1.lt p2'.lt
  have fr : ∀ d, s1.heap.objs.size ≤ d → FpOk X pins H1 d := fun d hd => I1.fpOk hd (I1.hok.fresh hd)
  refine ⟨⟨_, hS, rfl⟩, F.args_list_init_2 _ _, ?_⟩
  refine ZN.list_init_zip (s := { s1 with heap := h'.push { cls := .type "list", data := .seq #[] } }) (up _ _ hz) (Nat.ne_of_gt ltz) hS fun h2' hk2 ⟨c, hS2⟩ => ?_
  have kp : ∀ d o, h'.get? d = some o → h2'.get? d = some o := fun d o e => hk2 d o (Nat.ne_of_lt (Heap.lt_size e)) (up d o e)
  have I4 : Inv X pins σ H1 { s1 with heap := h2' } := I2.kept (t' := s1.toks) kp
  refine ZN.zip_drain0 (A := X.A.in1) (H0 := H1) (X := X) (pins := pins) (σ := σ) (I1.ok.hd hc) D hl few ⟨Nat.ne_of_gt ltz, Nat.ne_of_gt ltTI, Nat.ne_of_gt lti1, Nat.ne_of_gt lti2, Nat.ne_of_gt ltTO⟩ ?_ I4 (fun d hd => fr d ?_) (kp _ _ hz) (kp _ _ hTI) (kp _ _ hTO) (h1.at fun o q => kp _ _ q) (h2.at fun o q => kp _ _ q) hqx hqy hS2
  · intro s2 H2 acc c2 ts J hS3 rt L fp
    have hlt : ts.length ≤ sizeLine := by rw [L.len, sizeLine_eq]; omega
    exact ⟨rfl, ⟨.ref h'.objs.size, _, ZN.adopt J fp hS3 rt hlt, rfl, q1 ts H2 _ L fp.1⟩⟩
  · simp only [List.mem_cons, List.not_mem_nil, or_false] at hd
    rcases hd with rfl | rfl | rfl | rfl | rfl | rfl
    · rw [hsz]; exact Nat.le_add_right _ _
    · rw [← hz0]; exact Nat.le_add_right _ _
    · exact Nat.le_add_right _ _
    · exact Nat.le_refl _
    · exact Nat.le_add_right _ _
    · exact Nat.le_add_right _ _
end L2
namespace PV
open PySem PySem.Spec PyProof.Rows L2 ZL
def lzE (ms : MA) : ME := fun ρ S => (ms ρ S).bind fun ds S1 => match ds with
  | [.lst xs, .lst ys] => if xs.length = ys.length ∧ xs.length ≤ 4000 then .ok (.lst (zipD xs ys)) S1 else .no
  | _ => .no
theorem rps_snoc {K : PySem.W.Frag} {G : Gh} {xs : List D} {vs : List V} {v : V} (h : Rps K G xs (vs ++ [v])) : ∃ ys d, xs = ys ++ [d] ∧ Rps K G ys vs ∧ Rp K G d v := by
  induction vs generalizing xs with
  | nil => cases h with | cons a b => cases b; exact ⟨[], _, rfl, .nil, a⟩
  | cons w vs ih => cases h with | cons a b =>
    obtain ⟨ys, d, rfl, h1, h2⟩ := ih b
    exact ⟨_ :: ys, d, rfl, .cons a h1, h2⟩
theorem zipD_snoc {xs ys : List D} {x y : D} (h : xs.length = ys.length) : zipD (xs ++ [x]) (ys ++ [y]) = zipD xs ys ++ [.tup [x, y]] := by
  unfold zipD
  rw [List.zip_append h]
  simp
theorem lay_rp {K : PySem.W.Frag} {S : Sto} {H H' : Hp} {ts vs ws : List V} (L : ZN.Lay H ts vs ws H') : ∀ {G : Gh} {xs ys : List D}, Sm K G S H → Rps K G xs vs → Rps K G ys ws → vs.length = ws.length → ∃ G', Stp G H G' H' ∧ Sm K G' S H' ∧ Rps K G' (zipD xs ys) ts := by
  induction L with
  | nil => intro G xs ys sm r r' _; cases r; cases r'; exact ⟨G, .refl, sm, .nil⟩
  | @snoc H1 ts vs ws t x y h e ih =>
    intro G xs ys sm r r' hl
    obtain ⟨xs', d, rfl, r1, rd⟩ := rps_snoc r
    obtain ⟨ys', d', rfl, r2, rd'⟩ := rps_snoc r'
    simp only [List.length_append, List.length_cons, List.length_nil] at hl
    obtain ⟨G1, st, sm1, r3⟩ := ih sm r1 r2 (by omega)
    have st2 := Stp.put (o := .tup [x, y]) sm1 e
    refine ⟨_, st.trans st2, sm1.put e, ?_⟩
    have l1 := r1.length
    have l2 := r2.length
    rw [zipD_snoc (by omega)]
    exact (r3.mono st2.le).append (.cons (.tup (SqT.of upd_same) (.cons ((rd.mono st.le).mono st2.le) (.cons ((rd'.mono st.le).mono st2.le) .nil))) .nil)
theorem qe_lz {X : Cx} {e e2 : Expr} {ms : MA} {p p2 q pos : Pos} (hm : X.mg "list" = none) (hm2 : X.mg "zip" = none) (ha : QA X [e, e2] ms) (hc : X.calm = true := by rfl) (hg : Gl X "list" := by rfl) (hg2 : Gl X "zip" := by rfl)
    (hs : starEach [e, e2] X.env = (false, eval e X.env) :: starEach [e2] X.env := by rfl) (hpl : (backTo q (starEach [e2] X.env)).any (·.1) = false := by rfl) : QE X (.Call (.Name "list" p) [.Call (.Name "zip" p2) [e, e2] [] q] [] pos) (lzE ms) :=
  qe_of (pe_lz hc hg hm hg2 hm2 ha hs hpl) fun ρ S G σ H Q sm re h => by
  refine ⟨ρ, S, G, sm, re, (sat.bind (R := Rps X.K) h).imp fun vs H1 w => ?_⟩
  obtain ⟨ds, S1, G1, le1, sm1, r1, q1⟩ := w
  split at q1
  · rename_i xs ys
    split at q1
    · rename_i hc
      obtain ⟨v, w, rfl, h1, h2⟩ := vals2' r1
      cases h1 with
      | lst a b =>
        cases h2 with
        | lst a' b' =>
          have l1 := b.length
          have l2 := b'.length
          refine ⟨_, _, _, _, rfl, SqL.of (sm1.fr _ _ a), SqL.of (sm1.fr _ _ a'), by omega, by omega, fun ts H2 p L hp => ?_⟩
          obtain ⟨G2, st, sm2, r3⟩ := lay_rp L sm1 b b' (by omega)
          have st2 := Stp.put (o := .lst ts) sm2 hp
          exact q1 _ _ _ (st.trans st2) (sm2.put hp) (.lst upd_same (r3.mono st2.le))
    · exact q1.elim
  · exact q1.elim
/-! ### text.replace(c, d): a token is given out before -/
section
variable {X : Cx} {e a : Expr} {es : List Expr} {m : ME} {ms : MA} {g : G2} {y z : Str} {i j n : Nat} {c0 c1 apos pos : Pos}
end
end PV
set_option Elab.async false
set_option linter.all false
set_option maxRecDepth 100000
set_option maxHeartbeats 4000000
/-! f() of a def without parameters -/
namespace PV
open PySem PySem.Spec PyProof.Rows L2 ZL
end PV
set_option Elab.async false
set_option linter.all false
set_option maxRecDepth 100000
set_option maxHeartbeats 4000000
/-! C.m() of a staticmethod -/
namespace PV
open PySem PySem.Spec PyProof.Rows L2 ZL
theorem qe_sm0 {X : Cx} {c : String} {F : Fn} {j : Nat} {o : Expr} {mo : ME} {apos pos : Pos} {m : Str} {p g : Addr} {mc : Value} {pl : Sem Bool} (hrd : ClX.CRead X.K (gaS X.K c) mc) (hcm : SMet X.K (gaS X.K c) mc m p g) (Ff : FnF X.prog X.w X.K X.mg X.base j g F) (hr : Room j X.A) (ho : QE X o mo)
    (ht : eval (.Call (.Attribute o m apos) [] [] pos) X.env = (do
      let ov ← eval o X.env
      standAt apos.atName
      let (f, first) ← holding [ov] (getMethod ov m pl)
      callWith pos f first (backTo pos (starEach [] X.env)) (backToKw pos (keywordEach [] X.env))) := by rfl) :
    QE X (.Call (.Attribute o m apos) [] [] pos) (smE c F mo aNil) := ⟨fun pins s σ H Q I z => by
  obtain ⟨ρ, S, G, sm, re, h⟩ := z
  refine PySem.W.methodCall_KW (pl := pl) (thn (ho.run pins s σ H _ I ⟨ρ, S, G, sm, re, sat.bind h⟩) fun u s1 k => ?_) ht
  obtain ⟨v, H1, I1, rv, x, S1, G1, le1, sm1, r1, q1⟩ := k
  split at q1
  · rename_i hc
    obtain ⟨rfl, rfl⟩ := isCl_rp hc r1
    obtain rfl : u = Value.ref (gaS X.K c) := rv
    refine getsm_ok I1 hrd hcm fun s2 I2 => ?_
    exact PySem.W.callWith_K0 I2.kIn hcm.kp (wpAny_call (run_fnR (us := []) (vs := []) Ff hr passE I2 .nil ⟨[], S1, G1, sm1, .nil, sat_sp q1⟩))
  · exact q1.elim⟩
end PV
set_option Elab.async false
set_option linter.all false
set_option maxRecDepth 100000
set_option maxHeartbeats 0
namespace K08
open PySem PySem.W L2
def top (i : Nat) : Stmt := PySem.Challenge.pw_lapseeds_k08_ends_fit_and_take.main.body.getD i (.Pass ⟨0, 0, 0, 0⟩)
abbrev s_is_whole : Stmt := top 13
abbrev s_is_between : Stmt := top 14
abbrev s_bound_of : Stmt := top 18
abbrev s_HeldD_initD : Stmt := inClass (top 19) 1
abbrev s_are_signs : Stmt := top 31
abbrev s_RingD_initD : Stmt := inClass (top 33) 1
abbrev s_Ring_need_pit : Stmt := inClass (top 33) 3
abbrev s_End_pits_taken : Stmt := inClass (top 37) 7
abbrev s_Take_pits_taken : Stmt := inClass (top 40) 2
abbrev s_EndD_initD : Stmt := inClass (top 37) 3
abbrev s_AcrossD_initD : Stmt := inClass (top 41) 1
abbrev s_Ring_opposite : Stmt := inClass (top 33) 6
abbrev s_Across_pits_taken : Stmt := inClass (top 41) 2
abbrev s_law_pen : Stmt := top 46
abbrev s_law_draw : Stmt := top 47
abbrev s_law_pick : Stmt := top 48
abbrev s_law_signs : Stmt := top 51
abbrev s_law_numbers : Stmt := top 49
abbrev s_law_end : Stmt := top 52
abbrev s_held_of : Stmt := top 20
abbrev s_Held_onward : Stmt := inClass (top 19) 2
abbrev s_Held_none : Stmt := inClass (top 19) 4
abbrev s_Held_need_held : Stmt := inClass (top 19) 7
abbrev s_Held_truths : Stmt := inClass (top 19) 8
abbrev s_Held_pairs : Stmt := inClass (top 19) 9
abbrev s_HeldD_orD : Stmt := inClass (top 19) 12
abbrev s_law_held : Stmt := top 50
abbrev s_law_made : Stmt := top 53
abbrev s_HeldD_eqD : Stmt := inClass (top 19) 20
abbrev s_law_kind_right : Stmt := top 56
abbrev s_law_taken : Stmt := top 57
abbrev s_need_player : Stmt := top 32
abbrev s_Ring_player_of : Stmt := inClass (top 33) 4
abbrev s_Ring_store_of : Stmt := inClass (top 33) 5
abbrev s_End_is_at : Stmt := inClass (top 37) 5
abbrev s_HeldD_containsD : Stmt := inClass (top 19) 10
abbrev s_need_seeds : Stmt := top 23
abbrev s_End_fits : Stmt := inClass (top 37) 6
abbrev s_law_is_at : Stmt := top 54
abbrev s_law_fits : Stmt := top 55
abbrev s_law_acts_right : Stmt := top 58
abbrev s_law : Stmt := top 59
abbrev s_BadEndD_initD : Stmt := inClass (top 7) 0
abbrev s_BadHeldD_initD : Stmt := inClass (top 3) 0
abbrev s_BadNumberD_initD : Stmt := inClass (top 8) 0
abbrev s_BadPitD_initD : Stmt := inClass (top 6) 0
abbrev s_BadPlayerD_initD : Stmt := inClass (top 5) 0
abbrev s_BadRingD_initD : Stmt := inClass (top 4) 0
def gD (x : Str) (st : Stmt) : He5.DefA := ⟨fun K => He.ga K x, x, x, defArgs st, defBody st, defScope st, [], []⟩
def mD (c m q : Str) (st : Stmt) : He5.DefA := ⟨fun K => He.ma K (He.ga K c) m, m, q, defArgs st, defBody st, defScope st, [], []⟩
def uD (c m q : Str) (st : Stmt) : He5.DefA := ⟨fun K => He5.wf K (He.ga K c) "staticmethod" m, m, q, defArgs st, defBody st, defScope st, [], []⟩
def fn : List He5.DefA := [gD "is_whole" s_is_whole, gD "is_between" s_is_between, gD "bound_of" s_bound_of, { mD "Held" "__init__" "Held.__init__" s_HeldD_initD with kwd := [("beyond", .bl false)] }, gD "are_signs" s_are_signs, { mD "Ring" "__init__" "Ring.__init__" s_RingD_initD with dfl := [.non] }, mD "Ring" "need_pit" "Ring.need_pit" s_Ring_need_pit, mD "End" "pits_taken" "End.pits_taken" s_End_pits_taken, mD "End" "__init__" "End.__init__" s_EndD_initD, mD "Ring" "opposite" "Ring.opposite" s_Ring_opposite, mD "Across" "pits_taken" "Across.pits_taken" s_Across_pits_taken, gD "_law_pen" s_law_pen, gD "_law_draw" s_law_draw, gD "_law_pick" s_law_pick, gD "_law_signs" s_law_signs, gD "_law_numbers" s_law_numbers, gD "_law_end" s_law_end, gD "held_of" s_held_of, uD "Held" "onward" "Held.onward" s_Held_onward, uD "Held" "none" "Held.none" s_Held_none, mD "Held" "need_held" "Held.need_held" s_Held_need_held, mD "Held" "truths" "Held.truths" s_Held_truths, mD "Held" "pairs" "Held.pairs" s_Held_pairs, mD "Held" "__or__" "Held.__or__" s_HeldD_orD, gD "_law_held" s_law_held, gD "_law_made" s_law_made, mD "Held" "__eq__" "Held.__eq__" s_HeldD_eqD, gD "_law_kind_right" s_law_kind_right, gD "_law_taken" s_law_taken, gD "need_player" s_need_player, mD "Ring" "player_of" "Ring.player_of" s_Ring_player_of, mD "Ring" "store_of" "Ring.store_of" s_Ring_store_of, mD "End" "is_at" "End.is_at" s_End_is_at, mD "Held" "__contains__" "Held.__contains__" s_HeldD_containsD, gD "need_seeds" s_need_seeds, mD "End" "fits" "End.fits" s_End_fits, gD "_law_is_at" s_law_is_at, gD "_law_fits" s_law_fits, gD "_law_acts_right" s_law_acts_right, gD "law" s_law, mD "BadEnd" "__init__" "BadEnd.__init__" s_BadEndD_initD, mD "BadHeld" "__init__" "BadHeld.__init__" s_BadHeldD_initD, mD "BadNumber" "__init__" "BadNumber.__init__" s_BadNumberD_initD, mD "BadPit" "__init__" "BadPit.__init__" s_BadPitD_initD, mD "BadPlayer" "__init__" "BadPlayer.__init__" s_BadPlayerD_initD, mD "BadRing" "__init__" "BadRing.__init__" s_BadRingD_initD]
abbrev file_ : Str := PySem.Challenge.pw_lapseeds_k08_ends_fit_and_take.main.file
abbrev sA_Take_pits_taken : PV.SupA := ⟨fun K => He.ma K (He.ga K "Take") "pits_taken", fun K => He.ga K "Take", "pits_taken", "Take.pits_taken", defArgs s_Take_pits_taken, defBody s_Take_pits_taken, defScope s_Take_pits_taken, file_, []⟩
abbrev sA_AcrossD_initD : PV.SupA := ⟨fun K => He.ma K (He.ga K "Across") "__init__", fun K => He.ga K "Across", "__init__", "Across.__init__", defArgs s_AcrossD_initD, defBody s_AcrossD_initD, defScope s_AcrossD_initD, file_, [.bl false]⟩
def sups : List PV.SupA := [sA_Take_pits_taken, sA_AcrossD_initD]
abbrev mO (K : Frag) (c m : Str) : Addr := He.ma K (He.ga K c) m
abbrev uO (K : Frag) (c m : Str) : Addr := He5.wf K (He.ga K c) "staticmethod" m
abbrev wO (K : Frag) (c m : Str) : Addr := He5.wf K (He.ga K c) "classmethod" m
def glos : List Str := (["Across", "Again", "BadEnd", "BadHeld", "BadNumber", "BadPit", "BadPlayer", "BadRing", "End", "Held", "PLACES", "Quiet", "Ring", "Take", "TakeAgain", "Unlike", "_law_acts_right", "_law_draw", "_law_end", "_law_fits", "_law_held", "_law_is_at", "_law_kind_right", "_law_made", "_law_numbers", "_law_pen", "_law_pick", "_law_signs", "_law_taken", "are_signs"] : List Str) ++ (["bound_of", "held_of", "is_between", "is_whole", "law", "need_player", "need_seeds"] : List Str)
def frees : List Str := ["abs", "all", "bool", "int", "isinstance", "len", "list", "range", "repr", "set", "sorted", "str", "super", "tuple", "zip"]
def meths : List (Str × Str) := ([("Across", "fits"), ("Across", "is_at"), ("Across", "pits_taken"), ("Again", "__init__"), ("Again", "fits"), ("Again", "is_at"), ("Again", "pits_taken"), ("BadEnd", "__init__"), ("BadHeld", "__init__"), ("BadNumber", "__init__"), ("BadPit", "__init__"), ("BadPlayer", "__init__"), ("BadRing", "__init__"), ("End", "__init__"), ("End", "fits"), ("End", "is_at"), ("End", "pits_taken"), ("Held", "__contains__"), ("Held", "__eq__"), ("Held", "__or__"), ("Held", "need_held"), ("Held", "pairs"), ("Held", "truths"), ("Quiet", "__init__"), ("Quiet", "fits"), ("Quiet", "is_at"), ("Quiet", "pits_taken"), ("Ring", "need_pit"), ("Ring", "opposite"), ("Ring", "player_of")] : List (Str × Str)) ++ ([("Ring", "store_of"), ("Take", "__init__"), ("Take", "fits"), ("Take", "is_at"), ("Take", "pits_taken"), ("TakeAgain", "__init__"), ("TakeAgain", "fits"), ("TakeAgain", "is_at"), ("TakeAgain", "pits_taken")] : List (Str × Str))
def intcs : List (Str × Int) := [("LEAST_SIZE", 2), ("MOST_NUMBER", 3), ("MOST_SIZE", 6)]
def strcs : List (Str × Str) := [("OPEN", "o"), ("PITS", "ab"), ("SIGNS", "abABo"), ("STORES", "AB")]
def clss : List Str := ["Held", "Ring", "End", "Quiet", "Again", "Take", "Across", "TakeAgain"]
def mkrs : List Str := ["Across", "Again", "Held", "Quiet", "Ring", "Take", "TakeAgain"]
def noats : List (Str × Str) := [("Across", "full"), ("Across", "held"), ("Across", "where"), ("Again", "full"), ("Again", "held"), ("Again", "where"), ("End", "full"), ("End", "held"), ("End", "where"), ("Held", "bound"), ("Held", "is_endless"), ("Held", "listed"), ("Quiet", "full"), ("Quiet", "held"), ("Quiet", "where"), ("Ring", "across"), ("Ring", "signs"), ("Take", "full"), ("Take", "held"), ("Take", "where"), ("TakeAgain", "full"), ("TakeAgain", "held"), ("TakeAgain", "where")]
def cms : List (Str × Str) := []
def sms : List (Str × Str) := [("Held", "none"), ("Held", "onward")]
def crds : List Str := ["Held"]
def nes : List Str := ["Held"]
def gis : List (Str × Str) := []
def selfs : List Str := ["Held"]
def nofs : List (Str × Str) := [("BadEnd", "part"), ("BadHeld", "value"), ("BadNumber", "value"), ("BadPit", "value"), ("BadPlayer", "value"), ("BadRing", "part"), ("Held", "__ror__")]
def tys : List (String × Str × String) := [("int", "__or__", "int.__or__"), ("int", "__ror__", "int.__ror__")]
def subs : List (String × Str) := [("NoneType", "Held"), ("bool", "Held"), ("dict", "Held"), ("int", "Held"), ("list", "Held"), ("str", "Held"), ("tuple", "Held")]
def pls : List Str := []
def subc : List (Str × String) := []
def onos : List Str := []
def subx : List (Str × Str) := [("Across", "Held"), ("Again", "Held"), ("End", "Held"), ("Quiet", "Held"), ("Ring", "Held"), ("Take", "Held"), ("TakeAgain", "Held")]
def dvs : List (Str × Str × Str) := []
def kits : List (String × Str) := ([("NoneType", "Across"), ("NoneType", "Again"), ("NoneType", "End"), ("NoneType", "Held"), ("NoneType", "Quiet"), ("NoneType", "Take"), ("NoneType", "TakeAgain"), ("bool", "Across"), ("bool", "Again"), ("bool", "End"), ("bool", "Held"), ("bool", "Quiet"), ("bool", "Take"), ("bool", "TakeAgain"), ("dict", "Across"), ("dict", "Again"), ("dict", "End"), ("dict", "Held"), ("dict", "Quiet"), ("dict", "Take"), ("dict", "TakeAgain"), ("int", "Across"), ("int", "Again"), ("int", "End"), ("int", "Held"), ("int", "Quiet"), ("int", "Take"), ("int", "TakeAgain"), ("list", "Across"), ("list", "Again")] : List (String × Str)) ++ ([("list", "End"), ("list", "Held"), ("list", "Quiet"), ("list", "Take"), ("list", "TakeAgain"), ("str", "Across"), ("str", "Again"), ("str", "End"), ("str", "Held"), ("str", "Quiet"), ("str", "Take"), ("str", "TakeAgain"), ("tuple", "Across"), ("tuple", "Again"), ("tuple", "End"), ("tuple", "Held"), ("tuple", "Quiet"), ("tuple", "Take"), ("tuple", "TakeAgain")] : List (String × Str))
def kitcs : List (Str × String) := [("Across", "bool"), ("Across", "int"), ("Across", "str"), ("Again", "bool"), ("Again", "int"), ("Again", "str"), ("End", "bool"), ("End", "int"), ("End", "str"), ("Held", "bool"), ("Held", "int"), ("Held", "str"), ("Quiet", "bool"), ("Quiet", "int"), ("Quiet", "str"), ("Ring", "bool"), ("Ring", "int"), ("Ring", "str"), ("Take", "bool"), ("Take", "int"), ("Take", "str"), ("TakeAgain", "bool"), ("TakeAgain", "int"), ("TakeAgain", "str")]
def kitos : List (Str × Str × Bool) := ([("Across", "Across", true), ("Across", "Again", false), ("Across", "End", true), ("Across", "Held", false), ("Across", "Quiet", false), ("Across", "Take", true), ("Across", "TakeAgain", false), ("Again", "Across", false), ("Again", "Again", true), ("Again", "End", true), ("Again", "Held", false), ("Again", "Quiet", false), ("Again", "Take", false), ("Again", "TakeAgain", false), ("End", "Across", false), ("End", "Again", false), ("End", "End", true), ("End", "Held", false), ("End", "Quiet", false), ("End", "Take", false), ("End", "TakeAgain", false), ("Held", "Across", false), ("Held", "Again", false), ("Held", "End", false), ("Held", "Held", true), ("Held", "Quiet", false), ("Held", "Take", false), ("Held", "TakeAgain", false), ("Quiet", "Across", false), ("Quiet", "Again", false)] : List (Str × Str × Bool)) ++ ([("Quiet", "End", true), ("Quiet", "Held", false), ("Quiet", "Quiet", true), ("Quiet", "Take", false), ("Quiet", "TakeAgain", false), ("Ring", "Across", false), ("Ring", "Again", false), ("Ring", "End", false), ("Ring", "Held", false), ("Ring", "Quiet", false), ("Ring", "Take", false), ("Ring", "TakeAgain", false), ("Take", "Across", false), ("Take", "Again", false), ("Take", "End", true), ("Take", "Held", false), ("Take", "Quiet", false), ("Take", "Take", true), ("Take", "TakeAgain", false), ("TakeAgain", "Across", false), ("TakeAgain", "Again", true), ("TakeAgain", "End", true), ("TakeAgain", "Held", false), ("TakeAgain", "Quiet", false), ("TakeAgain", "Take", true), ("TakeAgain", "TakeAgain", true)] : List (Str × Str × Bool))
def ccs : List (Str × Str × Int) := []
def ihs : List (Str × Str × Str) := [("Across", "fits", "End"), ("Across", "is_at", "End"), ("Again", "__init__", "End"), ("Again", "fits", "End"), ("Again", "is_at", "End"), ("Again", "pits_taken", "End"), ("Quiet", "__init__", "End"), ("Quiet", "fits", "End"), ("Quiet", "is_at", "End"), ("Quiet", "pits_taken", "End"), ("Take", "__init__", "End"), ("Take", "fits", "End"), ("Take", "is_at", "End"), ("TakeAgain", "__init__", "End"), ("TakeAgain", "fits", "End"), ("TakeAgain", "is_at", "End"), ("TakeAgain", "pits_taken", "Take")]
def sus : List (Str × Str × Str × Str) := [("Across", "Across", "__init__", "End"), ("Across", "Take", "pits_taken", "End"), ("Take", "Take", "pits_taken", "End"), ("TakeAgain", "Take", "pits_taken", "End")]
def ics : List (Str × Str × PV.Cv) := [("Across", "WORD", .str "across"), ("Across", "is_again", .bl false), ("Across", "is_take", .bl true), ("Again", "WORD", .str "again"), ("Again", "is_again", .bl true), ("Again", "is_take", .bl false), ("End", "WORD", .str "end"), ("End", "is_again", .bl false), ("End", "is_take", .bl false), ("Quiet", "WORD", .str "quiet"), ("Quiet", "is_again", .bl false), ("Quiet", "is_take", .bl false), ("Take", "WORD", .str "take"), ("Take", "is_again", .bl false), ("Take", "is_take", .bl true), ("TakeAgain", "WORD", .str "takeagain"), ("TakeAgain", "is_again", .bl true), ("TakeAgain", "is_take", .bl true)]
def tcs : List (Str × List PV.Cv) := [("PLACES", [.str "own", .str "other", .str "store", .str "theirs", .str "open", .str "any"])]
def xcs : List Str := ["BadEnd", "BadHeld", "BadNumber", "BadPit", "BadPlayer", "BadRing", "Unlike"]
def xis : List Str := ["BadEnd", "BadHeld", "BadNumber", "BadPit", "BadPlayer", "BadRing"]
def xns : List Str := ["Unlike"]
def xms : List (Str × Str) := []
def kvs : List Str := []
def lams : List Str := []
def chk (K : Frag) : Bool := ((ihs.all fun p => decide (mO K p.1 p.2.1 = mO K p.2.2 p.2.1)) && ((sus.all fun p => PV.supB K (He.ga K p.1) (He.ga K p.2.1) p.2.2.1 (mO K p.2.2.2 p.2.2.1)) && ((ics.all fun p => He.conB K p.1 p.2.1 p.2.2.dv && !copiedNames.contains p.2.1) && ((tcs.all fun p => He.tupB K p.1 (p.2.map PV.Cv.dv)) && ((xcs.all fun c => PV.xcB K (He.ga K c)) && ((xis.all fun c => PV.oexB K (He.ga K c)) && ((xns.all fun c => excIn K (He.ga K c) PySem.HandSPX.veTail "ValueError.__new__") && ((xms.all fun p => decide (exmOne K (.ref (He.ga K p.1)) (.ref (He.ga K p.2)) = some true)) && ((kvs.all fun c => decide (kitOne K (.ref (He.ga K c)) (.type "ValueError") = some true)) && ((dvs.all fun p => (match nsIn K (He.ga K p.1) p.2.1 with | some (some (.str y _)) => decide (y = p.2.2) | _ => false)) && ((glos.all fun x => (He.Fa.glo x).ok K) && ((frees.all fun x => (He.Fa.free x).ok K) && ((meths.all fun p => (He.Fa.meth p.1 p.2).ok K) && ((intcs.all fun p => (He.Fa.int p.1 p.2).ok K) && ((strcs.all fun p => (He.Fa.str p.1 p.2).ok K) && ((clss.all fun c => (He.Fa.cls c).ok K) && ((mkrs.all fun c => (He.Fa.mkr c).ok K) && ((noats.all fun p => (He.Fa.noat p.1 p.2).ok K) && ((cms.all fun p => He5.wrapB K (He.ga K p.1) "classmethod" "classmethod.__get__" p.2 && fnIn K (wO K p.1 p.2)) && ((sms.all fun p => He5.wrapB K (He.ga K p.1) "staticmethod" "staticmethod.__get__" p.2 && keepIn K (.ref (uO K p.1 p.2))) && ((crds.all fun c => readsIn K (He.ga K c) (.type "type") && He.eqO (specialIn K (.ref (He.ga K c)) "__getattribute__") (some (some (.builtin "type.__getattribute__")))) && ((nes.all fun c => He.eqO (findIn K (.ref (He.ga K c)) "__ne__") (some (some (.builtin "object.__ne__"))) && decide (mroIn K (He.ga K c) (.type "object") = some true)) && ((gis.all fun p => fnIn K (mO K p.1 p.2)) && ((selfs.all fun c => selfFirst K (He.ga K c)) && ((nofs.all fun p => He.eqO (findIn K (.ref (He.ga K p.1)) p.2) (some none)) && ((tys.all fun p => He.eqO (findIn K (.type p.1) p.2.1) (some (some (.builtin p.2.2)))) && ((subs.all fun p => decide (subIn K (.type p.1) (.ref (He.ga K p.2)) = some false)) && ((pls.all fun c => decide ((clsIn K (He.ga K c)).map (fun cd => cd.mro) = some [.ref (He.ga K c), .type "object"])) && ((subc.all fun p => decide (subIn K (.ref (He.ga K p.1)) (.type p.2) = some false)) && ((onos.all fun m => He.eqO (findIn K (.type "object") m) (some none)) && ((subx.all fun p => decide (subIn K (.ref (He.ga K p.1)) (.ref (He.ga K p.2)) = some false)) && ((kits.all fun p => decide (kitOne K (.type p.1) (.ref (He.ga K p.2)) = some false)) && ((kitcs.all fun p => decide (kitOne K (.ref (He.ga K p.1)) (.type p.2) = some false)) && ((kitos.all fun p => decide (kitOne K (.ref (He.ga K p.1)) (.ref (He.ga K p.2.1)) = some p.2.2)) && ((ccs.all fun p => match findCls K (.ref (He.ga K p.1)) (.type "type") p.2.1 with | some (.val (.int i _)) => decide (i = p.2.2) | _ => false) && ((clss.all fun c => He.eqO (findIn K (.ref (He.ga K c)) "__class__") (some (some (.builtin "object.__class__")))) && ((clss.all fun c => decide (mroIn K (He.ga K c) (.type "object") = some true)) && ((He.eqO (specialIn K (.builtin "object.__class__") "__get__") (some (some (.builtin "getset_descriptor.__get__")))) && (decide (takesIn K (.builtin "object.__class__") = some true))))))))))))))))))))))))))))))))))))))))
structure TX (P : Program) (K : Frag) (mg : Str → Option Value) : Prop where
  says : ZH.SaysZ chk fn K
  sups : PV.SupSays sups K
  prog : PV.PrOk P file_
  ih : ∀ c m d, (c, m, d) ∈ ihs → mO K c m = mO K d m
  sup : ∀ c d m e, (c, d, m, e) ∈ sus → PV.Sup K (He.ga K c) (He.ga K d) m (mO K e m)
  ic : ∀ c f v, (c, f, v) ∈ ics → ∃ u, Con K (He.ga K c) f (He.Dv.v K v.dv) u
  tc : ∀ x vs, (x, vs) ∈ tcs → He.tupB K x (vs.map PV.Cv.dv) = true
  xc : ∀ c ∈ xcs, PV.XC K (He.ga K c)
  xi : ∀ c ∈ xis, PV.oexB K (He.ga K c) = true
  xn : ∀ c ∈ xns, excIn K (He.ga K c) PySem.HandSPX.veTail "ValueError.__new__" = true
  xm : ∀ c d, (c, d) ∈ xms → exmOne K (.ref (He.ga K c)) (.ref (He.ga K d)) = some true
  kv : ∀ c ∈ kvs, kitOne K (.ref (He.ga K c)) (.type "ValueError") = some true
  dv : ∀ x k v, (x, k, v) ∈ dvs → ∃ t, nsIn K (He.ga K x) k = some (some (.str v t))
  glo : ∀ x ∈ glos, mg x = some (.ref (He.ga K x))
  free : ∀ x ∈ frees, mg x = none
  meth : ∀ c m, (c, m) ∈ meths → Meth K (He.ga K c) m (mO K c m)
  intc : ∀ x i, (x, i) ∈ intcs → ∃ t, mg x = some (.int i t)
  strc : ∀ x z, (x, z) ∈ strcs → ∃ t, mg x = some (.str z t)
  cl : ∀ c ∈ clss, Cls K (He.ga K c)
  mkr : ∀ c ∈ mkrs, Mk K (He.ga K c) (mO K c "__init__")
  na : ∀ c f, (c, f) ∈ noats → NoAttr K (He.ga K c) f
  cm : ∀ c m, (c, m) ∈ cms → ClX.CMet K (He.ga K c) (.type "type") m (mO K c m) (wO K c m)
  sm : ∀ c m, (c, m) ∈ sms → PV.SMet K (He.ga K c) (.type "type") m (mO K c m) (uO K c m)
  rd : ∀ c ∈ crds, ClX.CRead K (He.ga K c) (.type "type")
  ne : ∀ c ∈ nes, ZL.OwnNe K (He.ga K c)
  gi : ∀ c m, (c, m) ∈ gis → fnIn K (mO K c m) = true
  sf : ∀ c ∈ selfs, selfFirst K (He.ga K c) = true
  nf : ∀ c m, (c, m) ∈ nofs → findIn K (.ref (He.ga K c)) m = some none
  ty : ∀ T m i, (T, m, i) ∈ tys → findIn K (.type T) m = some (some (.builtin i))
  sb : ∀ T c, (T, c) ∈ subs → subIn K (.type T) (.ref (He.ga K c)) = some false
  pl : ∀ c ∈ pls, ZL.Plain K (He.ga K c)
  sc : ∀ c T, (c, T) ∈ subc → subIn K (.ref (He.ga K c)) (.type T) = some false
  on : ∀ m ∈ onos, findIn K (.type "object") m = some none
  sx : ∀ c d, (c, d) ∈ subx → subIn K (.ref (He.ga K c)) (.ref (He.ga K d)) = some false
  kt : ∀ T c, (T, c) ∈ kits → kitOne K (.type T) (.ref (He.ga K c)) = some false
  kc : ∀ c T, (c, T) ∈ kitcs → kitOne K (.ref (He.ga K c)) (.type T) = some false
  ko : ∀ c d b, (c, d, b) ∈ kitos → kitOne K (.ref (He.ga K c)) (.ref (He.ga K d)) = some b
  cc : ∀ c f i, (c, f, i) ∈ ccs → ∃ u, ClX.CVal K (He.ga K c) (.type "type") f (.int i) u
  ca : ∀ c ∈ clss, findIn K (.ref (He.ga K c)) "__class__" = some (some (.builtin "object.__class__"))
  ob : ∀ c ∈ clss, mroIn K (He.ga K c) (.type "object") = some true
  cg : specialIn K (.builtin "object.__class__") "__get__" = some (some (.builtin "getset_descriptor.__get__"))
  ct : takesIn K (.builtin "object.__class__") = some true
theorem tx {K : Frag} {mg : Str → Option Value} {h : Heap} (X : K.In h) (G : h.Ns mainGlobals mg) (c : ZH.SaysZ chk fn K) (cs : PV.SupSays sups K) {P : Program} (po : PV.PrOk P file_) : TX P K mg := by
  have z := c.fact
  obtain ⟨z0, z⟩ := He.ba z
  obtain ⟨z1, z⟩ := He.ba z
  obtain ⟨z2, z⟩ := He.ba z
  obtain ⟨z3, z⟩ := He.ba z
  obtain ⟨z4, z⟩ := He.ba z
  obtain ⟨z5, z⟩ := He.ba z
  obtain ⟨z6, z⟩ := He.ba z
  obtain ⟨z7, z⟩ := He.ba z
  obtain ⟨z8, z⟩ := He.ba z
  obtain ⟨z9, z⟩ := He.ba z
  obtain ⟨z10, z⟩ := He.ba z
  obtain ⟨z11, z⟩ := He.ba z
  obtain ⟨z12, z⟩ := He.ba z
  obtain ⟨z13, z⟩ := He.ba z
  obtain ⟨z14, z⟩ := He.ba z
  obtain ⟨z15, z⟩ := He.ba z
  obtain ⟨z16, z⟩ := He.ba z
  obtain ⟨z17, z⟩ := He.ba z
  obtain ⟨z18, z⟩ := He.ba z
  obtain ⟨z19, z⟩ := He.ba z
  obtain ⟨z20, z⟩ := He.ba z
  obtain ⟨z21, z⟩ := He.ba z
  obtain ⟨z22, z⟩ := He.ba z
  obtain ⟨z23, z⟩ := He.ba z
  obtain ⟨z24, z⟩ := He.ba z
  obtain ⟨z25, z⟩ := He.ba z
  obtain ⟨z26, z⟩ := He.ba z
  obtain ⟨z27, z⟩ := He.ba z
  obtain ⟨z28, z⟩ := He.ba z
  obtain ⟨z29, z⟩ := He.ba z
  obtain ⟨z30, z⟩ := He.ba z
  obtain ⟨z31, z⟩ := He.ba z
  obtain ⟨z32, z⟩ := He.ba z
  obtain ⟨z33, z⟩ := He.ba z
  obtain ⟨z34, z⟩ := He.ba z
  obtain ⟨z35, z⟩ := He.ba z
  obtain ⟨z36, z⟩ := He.ba z
  obtain ⟨z37, z38⟩ := He.ba z
  exact { says := c, sups := cs, prog := po, ih := (fun c m d hp => of_decide_eq_true (List.all_eq_true.mp z0 (c, m, d) hp)), sup := (fun c d m e hp => PV.sup_of (List.all_eq_true.mp z1 (c, d, m, e) hp)), ic := (fun c f v hp => He.conB_ok (He.ba (List.all_eq_true.mp z2 (c, f, v) hp)).1 (by simpa using (He.ba (List.all_eq_true.mp z2 (c, f, v) hp)).2)), tc := (fun x vs hp => List.all_eq_true.mp z3 (x, vs) hp), xc := (fun c hc => PV.xc_of (List.all_eq_true.mp z4 c hc)), xi := (fun c hc => List.all_eq_true.mp z5 c hc), xn := (fun c hc => List.all_eq_true.mp z6 c hc), xm := (fun c d hp => of_decide_eq_true (List.all_eq_true.mp z7 (c, d) hp)), kv := (fun c hc => of_decide_eq_true (List.all_eq_true.mp z8 c hc)), dv := (fun x k v hp => PV.dval_of (List.all_eq_true.mp z9 (x, k, v) hp)), glo := (fun x hx => He.glo_ok X G (List.all_eq_true.mp z10 x hx)), free := (fun x hx => He.free_ok X G (List.all_eq_true.mp z11 x hx)), meth := (fun c m hp => He.meth_ok (List.all_eq_true.mp z12 (c, m) hp)), intc := (fun x i hp => He.int_ok X G (List.all_eq_true.mp z13 (x, i) hp)), strc := (fun x i hp => He.str_ok X G (List.all_eq_true.mp z14 (x, i) hp)), cl := (fun c hc => He.cls_ok (List.all_eq_true.mp z15 c hc)), mkr := (fun c hc => He.mkr_ok (List.all_eq_true.mp z16 c hc)), na := (fun c f hp => He.noat_ok (List.all_eq_true.mp z17 (c, f) hp)), cm := (fun c m hp => He5.cmet_of (He.ba (List.all_eq_true.mp z18 (c, m) hp)).1 (He.ba (List.all_eq_true.mp z18 (c, m) hp)).2), sm := (fun c m hp => PV.smet_of (He.ba (List.all_eq_true.mp z19 (c, m) hp)).1 (He.ba (List.all_eq_true.mp z19 (c, m) hp)).2), rd := (fun c hc => ⟨(He.ba (List.all_eq_true.mp z20 c hc)).1, He.eqO_ok (He.ba (List.all_eq_true.mp z20 c hc)).2⟩), ne := (fun c hc => ⟨He.eqO_ok (He.ba (List.all_eq_true.mp z21 c hc)).1, of_decide_eq_true (He.ba (List.all_eq_true.mp z21 c hc)).2⟩), gi := (fun c m hp => List.all_eq_true.mp z22 (c, m) hp), sf := (fun c hc => List.all_eq_true.mp z23 c hc), nf := (fun c m hp => He.eqO_ok (List.all_eq_true.mp z24 (c, m) hp)), ty := (fun T m i hp => He.eqO_ok (List.all_eq_true.mp z25 (T, m, i) hp)), sb := (fun T c hp => of_decide_eq_true (List.all_eq_true.mp z26 (T, c) hp)), pl := (fun c hc => Option.map_eq_some_iff.mp (of_decide_eq_true (List.all_eq_true.mp z27 c hc))), sc := (fun c T hp => of_decide_eq_true (List.all_eq_true.mp z28 (c, T) hp)), on := (fun m hm => He.eqO_ok (List.all_eq_true.mp z29 m hm)), sx := (fun c d hp => of_decide_eq_true (List.all_eq_true.mp z30 (c, d) hp)), kt := (fun T c hp => of_decide_eq_true (List.all_eq_true.mp z31 (T, c) hp)), kc := (fun c T hp => of_decide_eq_true (List.all_eq_true.mp z32 (c, T) hp)), ko := (fun c d b hp => of_decide_eq_true (List.all_eq_true.mp z33 (c, d, b) hp)), cc := (fun c f i hp => PV.cval_of (List.all_eq_true.mp z34 (c, f, i) hp)), ca := (fun c hc => He.eqO_ok (List.all_eq_true.mp z35 c hc)), ob := (fun c hc => of_decide_eq_true (List.all_eq_true.mp z36 c hc)), cg := (He.eqO_ok z37), ct := (of_decide_eq_true z38) }
abbrev R : PySem.W.OpenRow := PySem.W.OpenLaw.row PySem.Challenge.rw_lapseeds_k08_ends_fit_and_take
abbrev hk : PySem.W.Hook := ZH.hookL 7 lams chk fn
def ob (s : PySem.W.SharedT) : He.AlD × Bool := ZH.obsLG 7 lams chk fn (HandSHeadRun.getT s)
def loose : List Str := (["_wall", "LapError", "BadHeld", "BadRing", "BadPlayer", "BadPit", "BadEnd", "BadNumber", "BadText", "Unlike", "FIGURES", "is_whole", "is_between", "number_in", "MOST_NUMBER", "bound_of", "Held", "held_of", "told_held", "need_seeds", "LEAST_SIZE", "MOST_SIZE", "SIGNS", "PITS", "STORES", "EXCHANGED", "are_signs", "need_player", "Ring", "PLACES"] : List Str) ++ (["OPEN", "End", "Quiet", "Again", "Take", "Across", "TakeAgain", "made_end", "told_end", "_law_pen", "_law_draw", "_law_pick", "_law_numbers", "_law_held", "_law_signs", "_law_end", "_law_made", "_law_is_at", "_law_fits", "_law_kind_right", "_law_taken", "_law_acts_right"] : List Str)
end K08
namespace K08
open PySem PySem.Spec PyProof.Rows L2 ZL PV
theorem kp_is_whole {P : Program} {K : PySem.W.Frag} {mg : Str → Option Value} (T : TX P K mg) : PySem.W.keepIn K (.ref (He.ga K "is_whole")) = true := (T.says.def_ 0).choose_spec.kp
theorem kp_is_between {P : Program} {K : PySem.W.Frag} {mg : Str → Option Value} (T : TX P K mg) : PySem.W.keepIn K (.ref (He.ga K "is_between")) = true := (T.says.def_ 1).choose_spec.kp
theorem kp_bound_of {P : Program} {K : PySem.W.Frag} {mg : Str → Option Value} (T : TX P K mg) : PySem.W.keepIn K (.ref (He.ga K "bound_of")) = true := (T.says.def_ 2).choose_spec.kp
theorem kp_are_signs {P : Program} {K : PySem.W.Frag} {mg : Str → Option Value} (T : TX P K mg) : PySem.W.keepIn K (.ref (He.ga K "are_signs")) = true := (T.says.def_ 4).choose_spec.kp
theorem kp_law_pen {P : Program} {K : PySem.W.Frag} {mg : Str → Option Value} (T : TX P K mg) : PySem.W.keepIn K (.ref (He.ga K "_law_pen")) = true := (T.says.def_ 11).choose_spec.kp
theorem kp_law_draw {P : Program} {K : PySem.W.Frag} {mg : Str → Option Value} (T : TX P K mg) : PySem.W.keepIn K (.ref (He.ga K "_law_draw")) = true := (T.says.def_ 12).choose_spec.kp
theorem kp_law_pick {P : Program} {K : PySem.W.Frag} {mg : Str → Option Value} (T : TX P K mg) : PySem.W.keepIn K (.ref (He.ga K "_law_pick")) = true := (T.says.def_ 13).choose_spec.kp
theorem kp_law_signs {P : Program} {K : PySem.W.Frag} {mg : Str → Option Value} (T : TX P K mg) : PySem.W.keepIn K (.ref (He.ga K "_law_signs")) = true := (T.says.def_ 14).choose_spec.kp
theorem kp_law_numbers {P : Program} {K : PySem.W.Frag} {mg : Str → Option Value} (T : TX P K mg) : PySem.W.keepIn K (.ref (He.ga K "_law_numbers")) = true := (T.says.def_ 15).choose_spec.kp
theorem kp_law_end {P : Program} {K : PySem.W.Frag} {mg : Str → Option Value} (T : TX P K mg) : PySem.W.keepIn K (.ref (He.ga K "_law_end")) = true := (T.says.def_ 16).choose_spec.kp
theorem kp_held_of {P : Program} {K : PySem.W.Frag} {mg : Str → Option Value} (T : TX P K mg) : PySem.W.keepIn K (.ref (He.ga K "held_of")) = true := (T.says.def_ 17).choose_spec.kp
theorem kp_law_held {P : Program} {K : PySem.W.Frag} {mg : Str → Option Value} (T : TX P K mg) : PySem.W.keepIn K (.ref (He.ga K "_law_held")) = true := (T.says.def_ 24).choose_spec.kp
theorem kp_law_made {P : Program} {K : PySem.W.Frag} {mg : Str → Option Value} (T : TX P K mg) : PySem.W.keepIn K (.ref (He.ga K "_law_made")) = true := (T.says.def_ 25).choose_spec.kp
theorem kp_law_kind_right {P : Program} {K : PySem.W.Frag} {mg : Str → Option Value} (T : TX P K mg) : PySem.W.keepIn K (.ref (He.ga K "_law_kind_right")) = true := (T.says.def_ 27).choose_spec.kp
theorem kp_law_taken {P : Program} {K : PySem.W.Frag} {mg : Str → Option Value} (T : TX P K mg) : PySem.W.keepIn K (.ref (He.ga K "_law_taken")) = true := (T.says.def_ 28).choose_spec.kp
theorem kp_need_player {P : Program} {K : PySem.W.Frag} {mg : Str → Option Value} (T : TX P K mg) : PySem.W.keepIn K (.ref (He.ga K "need_player")) = true := (T.says.def_ 29).choose_spec.kp
theorem kp_need_seeds {P : Program} {K : PySem.W.Frag} {mg : Str → Option Value} (T : TX P K mg) : PySem.W.keepIn K (.ref (He.ga K "need_seeds")) = true := (T.says.def_ 34).choose_spec.kp
theorem kp_law_is_at {P : Program} {K : PySem.W.Frag} {mg : Str → Option Value} (T : TX P K mg) : PySem.W.keepIn K (.ref (He.ga K "_law_is_at")) = true := (T.says.def_ 36).choose_spec.kp
theorem kp_law_fits {P : Program} {K : PySem.W.Frag} {mg : Str → Option Value} (T : TX P K mg) : PySem.W.keepIn K (.ref (He.ga K "_law_fits")) = true := (T.says.def_ 37).choose_spec.kp
theorem kp_law_acts_right {P : Program} {K : PySem.W.Frag} {mg : Str → Option Value} (T : TX P K mg) : PySem.W.keepIn K (.ref (He.ga K "_law_acts_right")) = true := (T.says.def_ 38).choose_spec.kp
theorem cf_ {P : Program} {K : PySem.W.Frag} {mg : Str → Option Value} (T : TX P K mg) (c : String) (h : Str.ofString c ∈ clss) : CF K c := ⟨T.cl _ h, T.ca _ h, T.cg, T.ct, T.ob _ h⟩
theorem nf_six {P : Program} {K : PySem.W.Frag} {mg : Str → Option Value} (T : TX P K mg) (c : String) (h : (six.all fun t => decide ((t, Str.ofString c) ∈ subs)) = true) (n : String) (hn : n ∈ six) : PySem.W.notFirst K (gaS K c) (tyV' K (.b n)) = true := by
  have z := T.sb n (Str.ofString c) (of_decide_eq_true (List.all_eq_true.mp h n hn))
  show (_ || _) = true
  rw [show PySem.W.subIn K (tyV' K (.b n)) (.ref (gaS K c)) = some false from z]
  simp
theorem nf_cls {P : Program} {K : PySem.W.Frag} {mg : Str → Option Value} (T : TX P K mg) (c d : String) (h : (Str.ofString c, Str.ofString d) ∈ subx) : PySem.W.notFirst K (gaS K d) (tyV' K (.c c)) = true := by
  have z := T.sx _ _ h
  show (_ || _) = true
  rw [show PySem.W.subIn K (tyV' K (.c c)) (.ref (gaS K d)) = some false from z]
  simp
theorem kt_six {P : Program} {K : PySem.W.Frag} {mg : Str → Option Value} (T : TX P K mg) (c : String) (h : (six.all fun t => decide ((t, Str.ofString c) ∈ kits)) = true) (n : String) (hn : n ∈ six) : PySem.W.kitOne K (.type n) (.ref (gaS K c)) = some false := T.kt n (Str.ofString c) (of_decide_eq_true (List.all_eq_true.mp h n hn))
theorem sc_BadEndD_initD : FnScope ["self", "part"] ["self", "part"] (defScope s_BadEndD_initD) := ⟨rfl, rfl, rfl, by decide +kernel, rfl, by decide +kernel, by decide +kernel⟩
noncomputable def xd_BadEnd {P : Program} {K : PySem.W.Frag} {mg : Str → Option Value} (T : TX P K mg) : FuncData := (T.says.def_ 40).choose
theorem x_BadEnd {P : Program} {w : World} {K : PySem.W.Frag} {mg : Str → Option Value} {base : Heap} (T : TX P K mg) : FnOk P w K mg base (L2.CX P w) 1 (mO K "BadEnd" "__init__") (xd_BadEnd T) ["self", "part"] (spX1 (gaS K "BadEnd") (Str.ofString "part")) := ok_x1 (st := s_BadEndD_initD) (T.says.def_ 40).choose_spec sc_BadEndD_initD rfl (oex_of (T.xc "BadEnd" (by decide +kernel)) (T.xi "BadEnd" (by decide +kernel))) (T.nf "BadEnd" "part" (by decide +kernel))
theorem xb_BadEnd {P : Program} {K : PySem.W.Frag} {mg : Str → Option Value} (T : TX P K mg) : Binds K (xd_BadEnd T) ["self", "part"] [] := (T.says.def_ 40).choose_spec.bindsN (fun _ _ _ _ _ _ us hl => match us, hl with | [_, _], _ => rfl)
theorem sc_BadHeldD_initD : FnScope ["self", "value"] ["self", "value"] (defScope s_BadHeldD_initD) := ⟨rfl, rfl, rfl, by decide +kernel, rfl, by decide +kernel, by decide +kernel⟩
noncomputable def xd_BadHeld {P : Program} {K : PySem.W.Frag} {mg : Str → Option Value} (T : TX P K mg) : FuncData := (T.says.def_ 41).choose
theorem x_BadHeld {P : Program} {w : World} {K : PySem.W.Frag} {mg : Str → Option Value} {base : Heap} (T : TX P K mg) : FnOk P w K mg base (L2.CX P w) 1 (mO K "BadHeld" "__init__") (xd_BadHeld T) ["self", "value"] (spX1 (gaS K "BadHeld") (Str.ofString "value")) := ok_x1 (st := s_BadHeldD_initD) (T.says.def_ 41).choose_spec sc_BadHeldD_initD rfl (oex_of (T.xc "BadHeld" (by decide +kernel)) (T.xi "BadHeld" (by decide +kernel))) (T.nf "BadHeld" "value" (by decide +kernel))
theorem xb_BadHeld {P : Program} {K : PySem.W.Frag} {mg : Str → Option Value} (T : TX P K mg) : Binds K (xd_BadHeld T) ["self", "value"] [] := (T.says.def_ 41).choose_spec.bindsN (fun _ _ _ _ _ _ us hl => match us, hl with | [_, _], _ => rfl)
theorem sc_BadNumberD_initD : FnScope ["self", "value"] ["self", "value"] (defScope s_BadNumberD_initD) := ⟨rfl, rfl, rfl, by decide +kernel, rfl, by decide +kernel, by decide +kernel⟩
noncomputable def xd_BadNumber {P : Program} {K : PySem.W.Frag} {mg : Str → Option Value} (T : TX P K mg) : FuncData := (T.says.def_ 42).choose
theorem x_BadNumber {P : Program} {w : World} {K : PySem.W.Frag} {mg : Str → Option Value} {base : Heap} (T : TX P K mg) : FnOk P w K mg base (L2.CX P w) 1 (mO K "BadNumber" "__init__") (xd_BadNumber T) ["self", "value"] (spX1 (gaS K "BadNumber") (Str.ofString "value")) := ok_x1 (st := s_BadNumberD_initD) (T.says.def_ 42).choose_spec sc_BadNumberD_initD rfl (oex_of (T.xc "BadNumber" (by decide +kernel)) (T.xi "BadNumber" (by decide +kernel))) (T.nf "BadNumber" "value" (by decide +kernel))
theorem xb_BadNumber {P : Program} {K : PySem.W.Frag} {mg : Str → Option Value} (T : TX P K mg) : Binds K (xd_BadNumber T) ["self", "value"] [] := (T.says.def_ 42).choose_spec.bindsN (fun _ _ _ _ _ _ us hl => match us, hl with | [_, _], _ => rfl)
theorem sc_BadPitD_initD : FnScope ["self", "value"] ["self", "value"] (defScope s_BadPitD_initD) := ⟨rfl, rfl, rfl, by decide +kernel, rfl, by decide +kernel, by decide +kernel⟩
noncomputable def xd_BadPit {P : Program} {K : PySem.W.Frag} {mg : Str → Option Value} (T : TX P K mg) : FuncData := (T.says.def_ 43).choose
theorem x_BadPit {P : Program} {w : World} {K : PySem.W.Frag} {mg : Str → Option Value} {base : Heap} (T : TX P K mg) : FnOk P w K mg base (L2.CX P w) 1 (mO K "BadPit" "__init__") (xd_BadPit T) ["self", "value"] (spX1 (gaS K "BadPit") (Str.ofString "value")) := ok_x1 (st := s_BadPitD_initD) (T.says.def_ 43).choose_spec sc_BadPitD_initD rfl (oex_of (T.xc "BadPit" (by decide +kernel)) (T.xi "BadPit" (by decide +kernel))) (T.nf "BadPit" "value" (by decide +kernel))
theorem xb_BadPit {P : Program} {K : PySem.W.Frag} {mg : Str → Option Value} (T : TX P K mg) : Binds K (xd_BadPit T) ["self", "value"] [] := (T.says.def_ 43).choose_spec.bindsN (fun _ _ _ _ _ _ us hl => match us, hl with | [_, _], _ => rfl)
theorem sc_BadPlayerD_initD : FnScope ["self", "value"] ["self", "value"] (defScope s_BadPlayerD_initD) := ⟨rfl, rfl, rfl, by decide +kernel, rfl, by decide +kernel, by decide +kernel⟩
noncomputable def xd_BadPlayer {P : Program} {K : PySem.W.Frag} {mg : Str → Option Value} (T : TX P K mg) : FuncData := (T.says.def_ 44).choose
theorem x_BadPlayer {P : Program} {w : World} {K : PySem.W.Frag} {mg : Str → Option Value} {base : Heap} (T : TX P K mg) : FnOk P w K mg base (L2.CX P w) 1 (mO K "BadPlayer" "__init__") (xd_BadPlayer T) ["self", "value"] (spX1 (gaS K "BadPlayer") (Str.ofString "value")) := ok_x1 (st := s_BadPlayerD_initD) (T.says.def_ 44).choose_spec sc_BadPlayerD_initD rfl (oex_of (T.xc "BadPlayer" (by decide +kernel)) (T.xi "BadPlayer" (by decide +kernel))) (T.nf "BadPlayer" "value" (by decide +kernel))
theorem xb_BadPlayer {P : Program} {K : PySem.W.Frag} {mg : Str → Option Value} (T : TX P K mg) : Binds K (xd_BadPlayer T) ["self", "value"] [] := (T.says.def_ 44).choose_spec.bindsN (fun _ _ _ _ _ _ us hl => match us, hl with | [_, _], _ => rfl)
theorem sc_BadRingD_initD : FnScope ["self", "part"] ["self", "part"] (defScope s_BadRingD_initD) := ⟨rfl, rfl, rfl, by decide +kernel, rfl, by decide +kernel, by decide +kernel⟩
noncomputable def xd_BadRing {P : Program} {K : PySem.W.Frag} {mg : Str → Option Value} (T : TX P K mg) : FuncData := (T.says.def_ 45).choose
theorem x_BadRing {P : Program} {w : World} {K : PySem.W.Frag} {mg : Str → Option Value} {base : Heap} (T : TX P K mg) : FnOk P w K mg base (L2.CX P w) 1 (mO K "BadRing" "__init__") (xd_BadRing T) ["self", "part"] (spX1 (gaS K "BadRing") (Str.ofString "part")) := ok_x1 (st := s_BadRingD_initD) (T.says.def_ 45).choose_spec sc_BadRingD_initD rfl (oex_of (T.xc "BadRing" (by decide +kernel)) (T.xi "BadRing" (by decide +kernel))) (T.nf "BadRing" "part" (by decide +kernel))
theorem xb_BadRing {P : Program} {K : PySem.W.Frag} {mg : Str → Option Value} (T : TX P K mg) : Binds K (xd_BadRing T) ["self", "part"] [] := (T.says.def_ 45).choose_spec.bindsN (fun _ _ _ _ _ _ us hl => match us, hl with | [_, _], _ => rfl)
end K08
set_option Elab.async false
set_option linter.all false
set_option maxRecDepth 100000
set_option maxHeartbeats 4000000
namespace K08
open PySem PySem.Spec PyProof.Rows L2 ZL PV
section
variable {P : Program} {w : World} {K : PySem.W.Frag} {mg : Str → Option Value} {base : Heap}
/-! is_whole -/
theorem ct_int {X : Cx} (T : TX X.prog X.K X.mg) : ∀ c ∈ ["Held", "Ring", "End", "Quiet", "Again", "Take", "Across", "TakeAgain"], CF X.K c ∧ PySem.W.kitOne X.K (.ref (gaS X.K c)) (.type "int") = some false := by
  intro c h
  simp only [List.mem_cons, List.not_mem_nil, or_false] at h
  rcases h with rfl | rfl | rfl | rfl | rfl | rfl | rfl | rfl
  · exact ⟨cf_ T "Held" (by decide +kernel), T.kc "Held" "int" (by decide +kernel)⟩
  · exact ⟨cf_ T "Ring" (by decide +kernel), T.kc "Ring" "int" (by decide +kernel)⟩
  · exact ⟨cf_ T "End" (by decide +kernel), T.kc "End" "int" (by decide +kernel)⟩
  · exact ⟨cf_ T "Quiet" (by decide +kernel), T.kc "Quiet" "int" (by decide +kernel)⟩
  · exact ⟨cf_ T "Again" (by decide +kernel), T.kc "Again" "int" (by decide +kernel)⟩
  · exact ⟨cf_ T "Take" (by decide +kernel), T.kc "Take" "int" (by decide +kernel)⟩
  · exact ⟨cf_ T "Across" (by decide +kernel), T.kc "Across" "int" (by decide +kernel)⟩
  · exact ⟨cf_ T "TakeAgain" (by decide +kernel), T.kc "TakeAgain" "int" (by decide +kernel)⟩
theorem ct_bool {X : Cx} (T : TX X.prog X.K X.mg) : ∀ c ∈ ["Held", "Ring", "End", "Quiet", "Again", "Take", "Across", "TakeAgain"], CF X.K c ∧ PySem.W.kitOne X.K (.ref (gaS X.K c)) (.type "bool") = some false := by
  intro c h
  simp only [List.mem_cons, List.not_mem_nil, or_false] at h
  rcases h with rfl | rfl | rfl | rfl | rfl | rfl | rfl | rfl
  · exact ⟨cf_ T "Held" (by decide +kernel), T.kc "Held" "bool" (by decide +kernel)⟩
  · exact ⟨cf_ T "Ring" (by decide +kernel), T.kc "Ring" "bool" (by decide +kernel)⟩
  · exact ⟨cf_ T "End" (by decide +kernel), T.kc "End" "bool" (by decide +kernel)⟩
  · exact ⟨cf_ T "Quiet" (by decide +kernel), T.kc "Quiet" "bool" (by decide +kernel)⟩
  · exact ⟨cf_ T "Again" (by decide +kernel), T.kc "Again" "bool" (by decide +kernel)⟩
  · exact ⟨cf_ T "Take" (by decide +kernel), T.kc "Take" "bool" (by decide +kernel)⟩
  · exact ⟨cf_ T "Across" (by decide +kernel), T.kc "Across" "bool" (by decide +kernel)⟩
  · exact ⟨cf_ T "TakeAgain" (by decide +kernel), T.kc "TakeAgain" "bool" (by decide +kernel)⟩
abbrev N_is_whole : List Str := ["value"]
theorem sc_is_whole : FnScope N_is_whole ["value"] (defScope s_is_whole) := ⟨rfl, rfl, rfl, by decide +kernel, rfl, by decide +kernel, by decide +kernel⟩
noncomputable def F_is_whole : Fn := dfn 1 1 (sSeq (sRet (anE (cal (isiF (isiB "int" ["Held", "Ring", "End", "Quiet", "Again", "Take", "Across", "TakeAgain"]) (isTy "int")) (aCons (v 0) (aCons (k (.ty "int")) aNil))) (noE (cal (isiF (isiB "bool" ["Held", "Ring", "End", "Quiet", "Again", "Take", "Across", "TakeAgain"]) (isTy "bool")) (aCons (v 0) (aCons (k (.ty "bool")) aNil)))))) (sNil))
theorem w_is_whole (T : TX P K mg) : FnF P w K mg base 1 (He.ga K "is_whole") F_is_whole := by
  obtain ⟨fd, F⟩ := T.says.def_ 0
  exact okF (j := 0) (st := s_is_whole) F sc_is_whole rfl rfl (fun _ _ _ _ _ _ us hl => match us, hl with | [_], _ => rfl) (fun cdv A outer s H E hr => qs_cons (qs_ret (qe_and (qe_blt (cf_isiB (by decide) (ct_int T)) (T.free "isinstance" (by decide +kernel)) (qa_cons (qv 0) (qa_cons (qg_ty (T.free "int" (by decide +kernel)) (by decide +kernel)) qa_nil))) (qe_one (qe_not (qe_blt (cf_isiB (by decide) (ct_bool T)) (T.free "isinstance" (by decide +kernel)) (qa_cons (qv 0) (qa_cons (qg_ty (T.free "bool" (by decide +kernel)) (by decide +kernel)) qa_nil))))))) (qs_nil))
/-! is_between -/
abbrev N_is_between : List Str := ["value", "low", "high"]
theorem sc_is_between : FnScope N_is_between ["value", "low", "high"] (defScope s_is_between) := ⟨rfl, rfl, rfl, by decide +kernel, rfl, by decide +kernel, by decide +kernel⟩
noncomputable def F_is_between : Fn := dfn 3 3 (sSeq (sRet (anE (cal F_is_whole (aCons (v 0) (aNil))) (chn (leG) (leG) (v 1) (v 0) (v 2)))) (sNil))
theorem w_is_between (T : TX P K mg) : FnF P w K mg base 2 (He.ga K "is_between") F_is_between := by
  obtain ⟨fd, F⟩ := T.says.def_ 1
  exact okF (j := 1) (st := s_is_between) F sc_is_between rfl rfl (fun _ _ _ _ _ _ us hl => match us, hl with | [_, _, _], _ => rfl) (fun cdv A outer s H E hr => qs_cons (qs_ret (qe_and (qe_call (w_is_whole T) (hr.mono (by decide)) (T.glo "is_whole" (by decide +kernel)) (kp_is_whole T) (qa_cons (qv 0) (qa_nil))) (qe_one (qe_chn (of_le) (of_le) (qv 1) (qv 0) (qv 2))))) (qs_nil))
/-! bound_of -/
abbrev N_bound_of : List Str := ["listed", "is_endless", "found"]
theorem sc_bound_of : FnScope N_bound_of ["listed", "is_endless"] (defScope s_bound_of) := ⟨rfl, rfl, rfl, by decide +kernel, rfl, by decide +kernel, by decide +kernel⟩
noncomputable def F_bound_of : Fn := dfn 2 3 (sSeq (sSet 2 (bin (addG) (k (.int 3)) (k (.int 1)))) (sSeq (sWhl (tAn (tst (bin (gtG) (v 2) (k (.int 0)))) (tst (bin (eqG false) (bin (inG false) (bin (subG) (v 2) (k (.int 1))) (v 0)) (v 1)))) (sSeq (sSet 2 (bin (subG) (v 2) (k (.int 1)))) (sNil))) (sSeq (sRet (v 2)) (sNil))))
theorem w_bound_of (T : TX P K mg) : FnF P w K mg base 1 (He.ga K "bound_of") F_bound_of := by
  obtain ⟨fd, F⟩ := T.says.def_ 2
  exact okF (j := 0) (st := s_bound_of) F sc_bound_of rfl rfl (fun _ _ _ _ _ _ us hl => match us, hl with | [_, _], _ => rfl) (fun cdv A outer s H E hr => qs_cons (qs_set 2 (qe_bin (of_add) (qg_int (T.intc "MOST_NUMBER" 3 (by decide +kernel))) (qk_int)) sc_bound_of.nd) (qs_cons (qs_whl (passes_of rfl) (qt_w (qw_and (qt_cmp (of_gt) (qv 2) (qk_int)) (qw_and1 (qt_cmp (of_eq hr.units) (qe_cmp (of_in (u65 hr)) (qe_bin (of_sub) (qv 2) (qk_int)) (qv 0)) (qv 1))))) (qs_cons (qs_set 2 (qe_bin (of_sub) (qv 2) (qk_int)) sc_bound_of.nd) (qs_nil))) (qs_cons (qs_ret (qv 2)) (qs_nil))))
/-! Held.__init__ -/
theorem fl_listed {X : Cx} (T : TX X.prog X.K X.mg) : ∀ c ∈ ["Held"], Cls X.K (He.ga X.K (Str.ofString c)) ∧ NoAttr X.K (He.ga X.K (Str.ofString c)) (Str.ofString "listed") := by
  intro c h
  simp only [List.mem_cons, List.not_mem_nil, or_false] at h
  rcases h with rfl
  · exact ⟨T.cl "Held" (by decide +kernel), T.na "Held" "listed" (by decide +kernel)⟩
theorem fl_bound {X : Cx} (T : TX X.prog X.K X.mg) : ∀ c ∈ ["Held"], Cls X.K (He.ga X.K (Str.ofString c)) ∧ NoAttr X.K (He.ga X.K (Str.ofString c)) (Str.ofString "bound") := by
  intro c h
  simp only [List.mem_cons, List.not_mem_nil, or_false] at h
  rcases h with rfl
  · exact ⟨T.cl "Held" (by decide +kernel), T.na "Held" "bound" (by decide +kernel)⟩
theorem fl_is_endless {X : Cx} (T : TX X.prog X.K X.mg) : ∀ c ∈ ["Held"], Cls X.K (He.ga X.K (Str.ofString c)) ∧ NoAttr X.K (He.ga X.K (Str.ofString c)) (Str.ofString "is_endless") := by
  intro c h
  simp only [List.mem_cons, List.not_mem_nil, or_false] at h
  rcases h with rfl
  · exact ⟨T.cl "Held" (by decide +kernel), T.na "Held" "is_endless" (by decide +kernel)⟩
abbrev N_HeldD_initD : List Str := ["self", "beyond", "numbers", "number"]
theorem sc_HeldD_initD : FnScope N_HeldD_initD ((["self", "beyond"] : List Str) ++ (["numbers"] : List Str)) (defScope s_HeldD_initD) := ⟨rfl, rfl, rfl, by decide +kernel, rfl, by decide +kernel, by decide +kernel⟩
noncomputable def B_HeldD_initD : MS := sSeq (sFor (.nm 3) (iSeq (v 2)) (sSeq (sIf (tNo (tru (cal F_is_between (aCons (v 3) (aCons (k (.int 0)) (aCons (k (.int 3)) (aNil))))))) (sSeq (sRai "BadHeld" ["value"] (aCons (v 3) (aNil))) (sNil)) (sNil)) (sNil))) (sSeq (sFldS ["Held"] "listed" (v 0) (cal tupB (aCons (srtSet (lcE (.nm 3) (iSeq (v 2)) (tYs) (cal intB (aCons (v 3) (aNil))))) (aNil)))) (sSeq (sFldS ["Held"] "is_endless" (v 0) (v 1)) (sSeq (sFldS ["Held"] "bound" (v 0) (cal F_bound_of (aCons (una (fldG ["Held"] "listed") (v 0)) (aCons (v 1) (aNil))))) (sNil))))
theorem b_HeldD_initD (T : TX P K mg) : ∀ (cdv : Value) (A : Around) (outer : List Env) (s : Shared) (H : Hp) (E : XK), Room 2 (A.deeper (envOfC "Held.__init__" (defScope s_HeldD_initD) s.heap.objs.size (mO K "Held" "__init__") cdv)) → QSs (cxOf (L2.CX P w) P w K mg base N_HeldD_initD "Held.__init__" (defScope s_HeldD_initD) (mO K "Held" "__init__") cdv A outer s H E) (defBody s_HeldD_initD) B_HeldD_initD := fun cdv A outer s H E hr => qs_cons (qs_for (passes_of rfl) rfl (qi_seq (qv 2)) (qg_name 3 sc_HeldD_initD.nd) (qs_cons (qs_if (qt_not (qt_tru (qe_call (w_is_between T) (hr.mono (by decide)) (T.glo "is_between" (by decide +kernel)) (kp_is_between T) (qa_cons (qv 3) (qa_cons (qk_int) (qa_cons (qg_int (T.intc "MOST_NUMBER" 3 (by decide +kernel))) (qa_nil))))))) (qs_cons (qs_rai1 rfl (oex_of (T.xc "BadHeld" (by decide +kernel)) (T.xi "BadHeld" (by decide +kernel))) (T.meth "BadHeld" "__init__" (by decide +kernel)).at_ (isFn_ty (T.meth "BadHeld" "__init__" (by decide +kernel)).fn) (x_BadHeld T) (hr.mono (by decide)) (xb_BadHeld T) (T.glo "BadHeld" (by decide +kernel)) (qa_cons (qv 3) (qa_nil))) (qs_nil)) (qs_nil)) (qs_nil))) (qs_cons (qs_fld (fl_listed T) (qv 0) (qe_typ cf_tup (T.free "tuple" (by decide +kernel)) (qa_cons (qe_srtSet (T.free "sorted" (by decide +kernel)) (T.free "set" (by decide +kernel)) (qe_lc (own := [("number", 3)]) (.nm 3) rfl rfl sc_HeldD_initD.nd (qi_seq (qv 2)) (blkOk_by (N := N_HeldD_initD) (sc := defScope s_HeldD_initD) (by decide +kernel)) (fun _ _ _ _ _ => qg_name 3 sc_HeldD_initD.nd) (fun _ _ _ _ _ => pts_yes) (fun _ _ _ _ _ => qe_typ cf_int (T.free "int" (by decide +kernel)) (qa_cons (qv 3) (qa_nil))))) (qa_nil)))) (qs_cons (qs_fld (fl_is_endless T) (qv 0) (qv 1)) (qs_cons (qs_fld (fl_bound T) (qv 0) (qe_call (w_bound_of T) (hr.mono (by decide)) (T.glo "bound_of" (by decide +kernel)) (kp_bound_of T) (qa_cons (qe_fld (fl_listed T) (qv 0)) (qa_cons (qv 1) (qa_nil))))) (qs_nil))))
noncomputable def FK_HeldD_initD : Fn := dfnK 4 B_HeldD_initD
noncomputable def F_HeldD_initD : Fn := dflK (.bl false) FK_HeldD_initD
theorem wK_HeldD_initD (T : TX P K mg) : FnK P w K mg base 3 (mO K "Held" "__init__") "beyond" FK_HeldD_initD := by
  obtain ⟨fd, F⟩ := T.says.def_ 3
  exact okFK (j := 2) (st := s_HeldD_initD) (p1 := "self") (pv := "numbers") (kn := "beyond") F sc_HeldD_initD rfl (b_HeldD_initD T) (fun kV doc pm an cdv ct a u rest => match rest with | [] => rfl | _ :: _ => rfl)
theorem w_HeldD_initD (T : TX P K mg) : FnF P w K mg base 3 (mO K "Held" "__init__") F_HeldD_initD := by
  obtain ⟨fd, F⟩ := T.says.def_ 3
  exact okFK0 (j := 2) (st := s_HeldD_initD) (p1 := "self") (pv := "numbers") (kn := "beyond") F sc_HeldD_initD rfl (b_HeldD_initD T) (fun G => (.bl _)) (fun D doc pm an cdv ct a rest => match rest with | [] => ⟨_, _, _, _, _, rfl, fun u => ⟨_, rfl, rfl⟩⟩ | _ :: _ => ⟨_, _, _, _, _, rfl, fun u => ⟨_, rfl, rfl⟩⟩)
/-! are_signs -/
theorem ct_str {X : Cx} (T : TX X.prog X.K X.mg) : ∀ c ∈ ["Held", "Ring", "End", "Quiet", "Again", "Take", "Across", "TakeAgain"], CF X.K c ∧ PySem.W.kitOne X.K (.ref (gaS X.K c)) (.type "str") = some false := by
  intro c h
  simp only [List.mem_cons, List.not_mem_nil, or_false] at h
  rcases h with rfl | rfl | rfl | rfl | rfl | rfl | rfl | rfl
  · exact ⟨cf_ T "Held" (by decide +kernel), T.kc "Held" "str" (by decide +kernel)⟩
  · exact ⟨cf_ T "Ring" (by decide +kernel), T.kc "Ring" "str" (by decide +kernel)⟩
  · exact ⟨cf_ T "End" (by decide +kernel), T.kc "End" "str" (by decide +kernel)⟩
  · exact ⟨cf_ T "Quiet" (by decide +kernel), T.kc "Quiet" "str" (by decide +kernel)⟩
  · exact ⟨cf_ T "Again" (by decide +kernel), T.kc "Again" "str" (by decide +kernel)⟩
  · exact ⟨cf_ T "Take" (by decide +kernel), T.kc "Take" "str" (by decide +kernel)⟩
  · exact ⟨cf_ T "Across" (by decide +kernel), T.kc "Across" "str" (by decide +kernel)⟩
  · exact ⟨cf_ T "TakeAgain" (by decide +kernel), T.kc "TakeAgain" "str" (by decide +kernel)⟩
abbrev N_are_signs : List Str := ["signs", "stores", "sign"]
theorem sc_are_signs : FnScope N_are_signs ["signs"] (defScope s_are_signs) := ⟨rfl, rfl, rfl, by decide +kernel, rfl, by decide +kernel, by decide +kernel⟩
noncomputable def F_are_signs : Fn := dfn 1 3 (sSeq (sIf (tOr (tNo (tru (cal (isiF (isiB "str" ["Held", "Ring", "End", "Quiet", "Again", "Take", "Across", "TakeAgain"]) (isTy "str")) (aCons (v 0) (aCons (k (.ty "str")) aNil))))) (tNo (tst (chn (leG) (leG) (k (.int 2)) (cal lenB (aCons (v 0) (aNil))) (k (.int 6)))))) (sSeq (sRet (k (.bl false))) (sNil)) (sNil)) (sSeq (sSet 1 (lcE (.nm 2) (iSeq (v 0)) (tst (bin (inG false) (v 2) (k (.str "AB")))) (v 2))) (sSeq (sRet (anE (cal allB (aCons (lcE (.nm 2) (iSeq (v 0)) (tYs) (bin (inG false) (v 2) (k (.str "abABo")))) (aNil))) (bin (eqG false) (cal lenB (aCons (v 1) (aNil))) (lnsE (v 1))))) (sNil))))
theorem w_are_signs (T : TX P K mg) : FnF P w K mg base 1 (He.ga K "are_signs") F_are_signs := by
  obtain ⟨fd, F⟩ := T.says.def_ 4
  exact okF (j := 0) (st := s_are_signs) F sc_are_signs rfl rfl (fun _ _ _ _ _ _ us hl => match us, hl with | [_], _ => rfl) (fun cdv A outer s H E hr => qs_cons (qs_if (qt_w (qw_or (qt_not (qt_tru (qe_blt (cf_isiB (by decide) (ct_str T)) (T.free "isinstance" (by decide +kernel)) (qa_cons (qv 0) (qa_cons (qg_ty (T.free "str" (by decide +kernel)) (by decide +kernel)) qa_nil))))) (qw_or1 (qt_not (qt_chn (of_le) (of_le) (qg_int (T.intc "LEAST_SIZE" 2 (by decide +kernel))) (qe_blt cf_len (T.free "len" (by decide +kernel)) (qa_cons (qv 0) (qa_nil))) (qg_int (T.intc "MOST_SIZE" 6 (by decide +kernel)))))))) (qs_cons (qs_ret (qk_bl)) (qs_nil)) (qs_nil)) (qs_cons (qs_setLc 1 (own := [("sign", 2)]) (.nm 2) rfl rfl sc_are_signs.nd (qi_seq (qv 0)) (blkOk_by (N := N_are_signs) (sc := defScope s_are_signs) (by decide +kernel)) (fun _ _ _ _ _ => qg_name 2 sc_are_signs.nd) (fun _ _ _ _ _ => qts_one (qt_cmp (of_in (u65 hr)) (qv 2) (qg_str (T.strc "STORES" "AB" (by decide +kernel))))) (fun _ _ _ _ _ => qv 2)) (qs_cons (qs_ret (qe_and (qe_blt (cf_all rfl) (T.free "all" (by decide +kernel)) (qa_cons (qe_lc (own := [("sign", 2)]) (.nm 2) rfl rfl sc_are_signs.nd (qi_seq (qv 0)) (blkOk_by (N := N_are_signs) (sc := defScope s_are_signs) (by decide +kernel)) (fun _ _ _ _ _ => qg_name 2 sc_are_signs.nd) (fun _ _ _ _ _ => pts_yes) (fun _ _ _ _ _ => qe_cmp (of_in (u65 hr)) (qv 2) (qg_str (T.strc "SIGNS" "abABo" (by decide +kernel))))) (qa_nil))) (qe_one (qe_cmp (of_eq hr.units) (qe_blt cf_len (T.free "len" (by decide +kernel)) (qa_cons (qv 1) (qa_nil))) (qe_lns (T.free "len" (by decide +kernel)) (T.free "set" (by decide +kernel)) (qv 1)))))) (qs_nil))))
/-! Ring.__init__ -/
theorem fl_across {X : Cx} (T : TX X.prog X.K X.mg) : ∀ c ∈ ["Ring"], Cls X.K (He.ga X.K (Str.ofString c)) ∧ NoAttr X.K (He.ga X.K (Str.ofString c)) (Str.ofString "across") := by
  intro c h
  simp only [List.mem_cons, List.not_mem_nil, or_false] at h
  rcases h with rfl
  · exact ⟨T.cl "Ring" (by decide +kernel), T.na "Ring" "across" (by decide +kernel)⟩
theorem fl_signs {X : Cx} (T : TX X.prog X.K X.mg) : ∀ c ∈ ["Ring"], Cls X.K (He.ga X.K (Str.ofString c)) ∧ NoAttr X.K (He.ga X.K (Str.ofString c)) (Str.ofString "signs") := by
  intro c h
  simp only [List.mem_cons, List.not_mem_nil, or_false] at h
  rcases h with rfl
  · exact ⟨T.cl "Ring" (by decide +kernel), T.na "Ring" "signs" (by decide +kernel)⟩
abbrev N_RingD_initD : List Str := ["self", "signs", "across"]
theorem sc_RingD_initD : FnScope N_RingD_initD ["self", "signs", "across"] (defScope s_RingD_initD) := ⟨rfl, rfl, rfl, by decide +kernel, rfl, by decide +kernel, by decide +kernel⟩
noncomputable def B_RingD_initD : MS := sSeq (sIf (tNo (tru (cal F_are_signs (aCons (v 1) (aNil))))) (sSeq (sRai "BadRing" ["part"] (aCons (k (.str "signs")) (aNil))) (sNil)) (sNil)) (sSeq (sIf (tAn (tst (bin (isG true) (v 2) (k .non))) (tNo (tru (cal F_is_between (aCons (v 2) (aCons (k (.int 0)) (aCons (bin (subG) (cal lenB (aCons (v 1) (aNil))) (k (.int 1))) (aNil)))))))) (sSeq (sRai "BadRing" ["part"] (aCons (k (.str "across")) (aNil))) (sNil)) (sNil)) (sSeq (sFldS ["Ring"] "signs" (v 0) (v 1)) (sSeq (sFldS ["Ring"] "across" (v 0) (ifE (tst (bin (isG false) (v 2) (k .non))) (bin (subG) (cal lenB (aCons (v 1) (aNil))) (k (.int 2))) (v 2))) (sNil))))
theorem b_RingD_initD (T : TX P K mg) : ∀ (cdv : Value) (A : Around) (outer : List Env) (s : Shared) (H : Hp) (E : XK), Room 2 (A.deeper (envOfC "Ring.__init__" (defScope s_RingD_initD) s.heap.objs.size (mO K "Ring" "__init__") cdv)) → QSs (cxOf (L2.CX P w) P w K mg base N_RingD_initD "Ring.__init__" (defScope s_RingD_initD) (mO K "Ring" "__init__") cdv A outer s H E) (defBody s_RingD_initD) B_RingD_initD := fun cdv A outer s H E hr => qs_cons (qs_if (qt_not (qt_tru (qe_call (w_are_signs T) (hr.mono (by decide)) (T.glo "are_signs" (by decide +kernel)) (kp_are_signs T) (qa_cons (qv 1) (qa_nil))))) (qs_cons (qs_rai1 rfl (oex_of (T.xc "BadRing" (by decide +kernel)) (T.xi "BadRing" (by decide +kernel))) (T.meth "BadRing" "__init__" (by decide +kernel)).at_ (isFn_ty (T.meth "BadRing" "__init__" (by decide +kernel)).fn) (x_BadRing T) (hr.mono (by decide)) (xb_BadRing T) (T.glo "BadRing" (by decide +kernel)) (qa_cons (qk_str) (qa_nil))) (qs_nil)) (qs_nil)) (qs_cons (qs_if (qt_w (qw_and (qt_cmp (of_isnot) (qv 2) (qk_non)) (qw_and1 (qt_not (qt_tru (qe_call (w_is_between T) (hr.mono (by decide)) (T.glo "is_between" (by decide +kernel)) (kp_is_between T) (qa_cons (qv 2) (qa_cons (qk_int) (qa_cons (qe_bin (of_sub) (qe_blt cf_len (T.free "len" (by decide +kernel)) (qa_cons (qv 1) (qa_nil))) (qk_int)) (qa_nil)))))))))) (qs_cons (qs_rai1 rfl (oex_of (T.xc "BadRing" (by decide +kernel)) (T.xi "BadRing" (by decide +kernel))) (T.meth "BadRing" "__init__" (by decide +kernel)).at_ (isFn_ty (T.meth "BadRing" "__init__" (by decide +kernel)).fn) (x_BadRing T) (hr.mono (by decide)) (xb_BadRing T) (T.glo "BadRing" (by decide +kernel)) (qa_cons (qk_str) (qa_nil))) (qs_nil)) (qs_nil)) (qs_cons (qs_fld (fl_signs T) (qv 0) (qv 1)) (qs_cons (qs_fld (fl_across T) (qv 0) (qe_if (qt_cmp (of_is) (qv 2) (qk_non)) (qe_bin (of_sub) (qe_blt cf_len (T.free "len" (by decide +kernel)) (qa_cons (qv 1) (qa_nil))) (qk_int)) (qv 2))) (qs_nil))))
theorem rd_RingD_initD : ∀ G, Rps K G [.non] (He5.DefA.dvs K (fn.getD 5 (gD "" (.Pass ⟨0, 0, 0, 0⟩)))) := fun G => .cons .non (.nil)
noncomputable def F_RingD_initD : Fn := dfnD 3 3 B_RingD_initD [.non]
theorem w_RingD_initD (T : TX P K mg) : FnF P w K mg base 3 (mO K "Ring" "__init__") F_RingD_initD := by
  obtain ⟨fd, F⟩ := T.says.def_ 5
  exact okFD (j := 2) (st := s_RingD_initD) F sc_RingD_initD rfl rfl rfl rd_RingD_initD (fun i hi => match i, hi with | 0, _ => F.binds1 2 0 (by simp [He5.DefA.dvs]) rfl (fun _ _ _ _ _ _ _ us its h1 h2 => match us, its, h1, h2 with | [_, _], [_], _, _ => ⟨_, rfl, rfl⟩) | 1, _ => F.binds1 3 1 (by simp [He5.DefA.dvs]) rfl (fun _ _ _ _ _ _ _ us its h1 h2 => match us, its, h1, h2 with | [_, _, _], [_], _, _ => ⟨_, rfl, rfl⟩)) (b_RingD_initD T)
/-! Ring.need_pit -/
abbrev N_Ring_need_pit : List Str := ["self", "pit"]
theorem sc_Ring_need_pit : FnScope N_Ring_need_pit ["self", "pit"] (defScope s_Ring_need_pit) := ⟨rfl, rfl, rfl, by decide +kernel, rfl, by decide +kernel, by decide +kernel⟩
noncomputable def F_Ring_need_pit : Fn := dfn 2 2 (sSeq (sIf (tNo (tru (cal F_is_between (aCons (v 1) (aCons (k (.int 0)) (aCons (bin (subG) (cal lenB (aCons (una (fldG ["Ring"] "signs") (v 0)) (aNil))) (k (.int 1))) (aNil))))))) (sSeq (sRai "BadPit" ["value"] (aCons (v 1) (aNil))) (sNil)) (sNil)) (sNil))
theorem w_Ring_need_pit (T : TX P K mg) : FnF P w K mg base 3 (mO K "Ring" "need_pit") F_Ring_need_pit := by
  obtain ⟨fd, F⟩ := T.says.def_ 6
  exact okF (j := 2) (st := s_Ring_need_pit) F sc_Ring_need_pit rfl rfl (fun _ _ _ _ _ _ us hl => match us, hl with | [_, _], _ => rfl) (fun cdv A outer s H E hr => qs_cons (qs_if (qt_not (qt_tru (qe_call (w_is_between T) (hr.mono (by decide)) (T.glo "is_between" (by decide +kernel)) (kp_is_between T) (qa_cons (qv 1) (qa_cons (qk_int) (qa_cons (qe_bin (of_sub) (qe_blt cf_len (T.free "len" (by decide +kernel)) (qa_cons (qe_fld (fl_signs T) (qv 0)) (qa_nil))) (qk_int)) (qa_nil))))))) (qs_cons (qs_rai1 rfl (oex_of (T.xc "BadPit" (by decide +kernel)) (T.xi "BadPit" (by decide +kernel))) (T.meth "BadPit" "__init__" (by decide +kernel)).at_ (isFn_ty (T.meth "BadPit" "__init__" (by decide +kernel)).fn) (x_BadPit T) (hr.mono (by decide)) (xb_BadPit T) (T.glo "BadPit" (by decide +kernel)) (qa_cons (qv 1) (qa_nil))) (qs_nil)) (qs_nil)) (qs_nil))
/-! End.pits_taken -/
theorem mt_End_pits_taken_need_pit_8 {X : Cx} (T : TX X.prog X.K X.mg) : Mths X 3 "need_pit" [("Ring", F_Ring_need_pit)] := by
  intro c F h
  have h := memLk h
  simp only [List.mem_cons, List.not_mem_nil, or_false, Prod.mk.injEq] at h
  rcases h with ⟨rfl, rfl⟩
  · exact ⟨T.cl "Ring" (by decide +kernel), _, T.meth "Ring" "need_pit" (by decide +kernel), (w_Ring_need_pit T).mono (by decide)⟩
abbrev N_End_pits_taken : List Str := ["self", "ring", "pit"]
theorem sc_End_pits_taken : FnScope N_End_pits_taken ["self", "ring", "pit"] (defScope s_End_pits_taken) := ⟨rfl, rfl, rfl, by decide +kernel, rfl, by decide +kernel, by decide +kernel⟩
noncomputable def B_End_pits_taken : MS := sSeq (sExp (mtO [("Ring", F_Ring_need_pit)] "need_pit" (v 1) (aCons (v 2) (aNil)))) (sSeq (sRet (tupE (aNil))) (sNil))
theorem b_End_pits_taken (T : TX P K mg) : ∀ (cdv : Value) (A : Around) (outer : List Env) (s : Shared) (H : Hp) (E : XK), Room 3 (A.deeper (envOfC "End.pits_taken" (defScope s_End_pits_taken) s.heap.objs.size (mO K "End" "pits_taken") cdv)) → QSs (cxOf (L2.CX P w) P w K mg base N_End_pits_taken "End.pits_taken" (defScope s_End_pits_taken) (mO K "End" "pits_taken") cdv A outer s H E) (defBody s_End_pits_taken) B_End_pits_taken := fun cdv A outer s H E hr => qs_cons (qs_exp (qe_mt (mt_End_pits_taken_need_pit_8 T) (hr.mono (by decide)) (qv 1) (qa_cons (qv 2) (qa_nil)))) (qs_cons (qs_ret (qe_tup (qa_nil))) (qs_nil))
noncomputable def F_End_pits_taken : Fn := dfn 3 3 B_End_pits_taken
theorem w_End_pits_taken (T : TX P K mg) : FnF P w K mg base 4 (mO K "End" "pits_taken") F_End_pits_taken := by
  obtain ⟨fd, F⟩ := T.says.def_ 7
  exact okF (j := 3) (st := s_End_pits_taken) F sc_End_pits_taken rfl rfl (fun _ _ _ _ _ _ us hl => match us, hl with | [_, _, _], _ => rfl) (b_End_pits_taken T)
/-! Take.pits_taken -/
abbrev N_Take_pits_taken : List Str := ["self", "ring", "pit"]
theorem S_Take_pits_taken : SupS N_Take_pits_taken ["self", "ring", "pit"] (defScope s_Take_pits_taken) := supS_by (by decide +kernel)
theorem hM_Take_pits_taken (T : TX P K mg) : ∀ c F, List.lookup c ([("Take", F_End_pits_taken), ("Across", F_End_pits_taken), ("TakeAgain", F_End_pits_taken)] : List (String × Fn)) = some F → ∃ f2, Sup K (gaS K c) (He.ga K "Take") (Str.ofString "pits_taken") f2 ∧ FnF P w K mg base 4 f2 F := by
  intro c F h
  have h := memLk h
  simp only [List.mem_cons, List.not_mem_nil, or_false, Prod.mk.injEq] at h
  rcases h with ⟨rfl, rfl⟩ | ⟨rfl, rfl⟩ | ⟨rfl, rfl⟩
  · exact ⟨_, T.sup "Take" "Take" "pits_taken" "End" (by decide +kernel), (w_End_pits_taken T).mono (by decide)⟩
  · exact ⟨_, T.sup "Across" "Take" "pits_taken" "End" (by decide +kernel), (w_End_pits_taken T).mono (by decide)⟩
  · exact ⟨_, T.sup "TakeAgain" "Take" "pits_taken" "End" (by decide +kernel), (w_End_pits_taken T).mono (by decide)⟩
noncomputable def B_Take_pits_taken : MS := sSeq (sExp (mtO [("Take", F_End_pits_taken), ("Across", F_End_pits_taken), ("TakeAgain", F_End_pits_taken)] "pits_taken" (v 0) (aCons (v 1) (aCons (v 2) (aNil))))) (sSeq (sRet (tupE (aCons (v 2) (aNil)))) (sNil))
theorem fk_Take_pits_taken (T : TX P K mg) : ∃ cdv fd, SupD P K "pits_taken" "Take.pits_taken" (defArgs s_Take_pits_taken) (defBody s_Take_pits_taken) (defScope s_Take_pits_taken) (SupA.dvs K sA_Take_pits_taken) (mO K "Take" "pits_taken") (He.ga K "Take") cdv (ccOf K (mO K "Take" "pits_taken")) fd ∧ FnOk P w K mg base (L2.CX P w) 5 (mO K "Take" "pits_taken") fd ["self", "ring", "pit"] (spF K (dfn 3 3 B_Take_pits_taken)) := by
  obtain ⟨cdv, fd, SD⟩ := T.sups.def_ (d := sA_Take_pits_taken) 0 T.prog
  have SD : SupD P K "pits_taken" "Take.pits_taken" (defArgs s_Take_pits_taken) (defBody s_Take_pits_taken) (defScope s_Take_pits_taken) (SupA.dvs K sA_Take_pits_taken) (mO K "Take" "pits_taken") (He.ga K "Take") cdv (ccOf K (mO K "Take" "pits_taken")) fd := SD
  exact ⟨cdv, fd, SD, supOk (j := 4) SD S_Take_pits_taken rfl rfl (T.free "super" (by decide +kernel)) rfl rfl (by decide +kernel) (by decide) (hM_Take_pits_taken T) rfl (fun _ => rfl) (fun _ => rfl) (fun _ => rfl) (fun _ => rfl) (fun A outer s H E hr => qa_cons (qv 1) (qa_cons (qv 2) (qa_nil))) (fun A outer s H E hr => qs_cons (qs_ret (qe_tup (qa_cons (qv 2) (qa_nil)))) (qs_nil))⟩
noncomputable def F_Take_pits_taken : Fn := dfn 3 3 B_Take_pits_taken
theorem w_Take_pits_taken (T : TX P K mg) : FnF P w K mg base 5 (mO K "Take" "pits_taken") F_Take_pits_taken := by
  obtain ⟨cdv, fd, SD, Fk⟩ := fk_Take_pits_taken (P := P) (w := w) (base := base) T
  exact supF SD Fk (fun _ _ _ _ _ us hl => match us, hl with | [_, _, _], _ => rfl)
/-! End.__init__ -/
theorem fl_full {X : Cx} (T : TX X.prog X.K X.mg) : ∀ c ∈ ["Across", "Again", "End", "Quiet", "Take", "TakeAgain"], Cls X.K (He.ga X.K (Str.ofString c)) ∧ NoAttr X.K (He.ga X.K (Str.ofString c)) (Str.ofString "full") := by
  intro c h
  simp only [List.mem_cons, List.not_mem_nil, or_false] at h
  rcases h with rfl | rfl | rfl | rfl | rfl | rfl
  · exact ⟨T.cl "Across" (by decide +kernel), T.na "Across" "full" (by decide +kernel)⟩
  · exact ⟨T.cl "Again" (by decide +kernel), T.na "Again" "full" (by decide +kernel)⟩
  · exact ⟨T.cl "End" (by decide +kernel), T.na "End" "full" (by decide +kernel)⟩
  · exact ⟨T.cl "Quiet" (by decide +kernel), T.na "Quiet" "full" (by decide +kernel)⟩
  · exact ⟨T.cl "Take" (by decide +kernel), T.na "Take" "full" (by decide +kernel)⟩
  · exact ⟨T.cl "TakeAgain" (by decide +kernel), T.na "TakeAgain" "full" (by decide +kernel)⟩
theorem fl_held {X : Cx} (T : TX X.prog X.K X.mg) : ∀ c ∈ ["Across", "Again", "End", "Quiet", "Take", "TakeAgain"], Cls X.K (He.ga X.K (Str.ofString c)) ∧ NoAttr X.K (He.ga X.K (Str.ofString c)) (Str.ofString "held") := by
  intro c h
  simp only [List.mem_cons, List.not_mem_nil, or_false] at h
  rcases h with rfl | rfl | rfl | rfl | rfl | rfl
  · exact ⟨T.cl "Across" (by decide +kernel), T.na "Across" "held" (by decide +kernel)⟩
  · exact ⟨T.cl "Again" (by decide +kernel), T.na "Again" "held" (by decide +kernel)⟩
  · exact ⟨T.cl "End" (by decide +kernel), T.na "End" "held" (by decide +kernel)⟩
  · exact ⟨T.cl "Quiet" (by decide +kernel), T.na "Quiet" "held" (by decide +kernel)⟩
  · exact ⟨T.cl "Take" (by decide +kernel), T.na "Take" "held" (by decide +kernel)⟩
  · exact ⟨T.cl "TakeAgain" (by decide +kernel), T.na "TakeAgain" "held" (by decide +kernel)⟩
theorem fl_where {X : Cx} (T : TX X.prog X.K X.mg) : ∀ c ∈ ["Across", "Again", "End", "Quiet", "Take", "TakeAgain"], Cls X.K (He.ga X.K (Str.ofString c)) ∧ NoAttr X.K (He.ga X.K (Str.ofString c)) (Str.ofString "where") := by
  intro c h
  simp only [List.mem_cons, List.not_mem_nil, or_false] at h
  rcases h with rfl | rfl | rfl | rfl | rfl | rfl
  · exact ⟨T.cl "Across" (by decide +kernel), T.na "Across" "where" (by decide +kernel)⟩
  · exact ⟨T.cl "Again" (by decide +kernel), T.na "Again" "where" (by decide +kernel)⟩
  · exact ⟨T.cl "End" (by decide +kernel), T.na "End" "where" (by decide +kernel)⟩
  · exact ⟨T.cl "Quiet" (by decide +kernel), T.na "Quiet" "where" (by decide +kernel)⟩
  · exact ⟨T.cl "Take" (by decide +kernel), T.na "Take" "where" (by decide +kernel)⟩
  · exact ⟨T.cl "TakeAgain" (by decide +kernel), T.na "TakeAgain" "where" (by decide +kernel)⟩
theorem cc_Held {X : Cx} (T : TX X.prog X.K X.mg) : CallF X (.builtin "isinstance") (isiF (isiC [("Held", true), ("Ring", false), ("End", false), ("Quiet", false), ("Again", false), ("Take", false), ("Across", false), ("TakeAgain", false)]) (isCl "Held")) := by
  refine cf_isiC (fun n h => kt_six T "Held" (by decide +kernel) n h) fun c b h => ?_
  have h := memLk h
  simp only [List.mem_cons, List.not_mem_nil, or_false, Prod.mk.injEq] at h
  rcases h with ⟨rfl, rfl⟩ | ⟨rfl, rfl⟩ | ⟨rfl, rfl⟩ | ⟨rfl, rfl⟩ | ⟨rfl, rfl⟩ | ⟨rfl, rfl⟩ | ⟨rfl, rfl⟩ | ⟨rfl, rfl⟩
  · exact ⟨cf_ T "Held" (by decide +kernel), T.ko "Held" "Held" true (by decide +kernel)⟩
  · exact ⟨cf_ T "Ring" (by decide +kernel), T.ko "Ring" "Held" false (by decide +kernel)⟩
  · exact ⟨cf_ T "End" (by decide +kernel), T.ko "End" "Held" false (by decide +kernel)⟩
  · exact ⟨cf_ T "Quiet" (by decide +kernel), T.ko "Quiet" "Held" false (by decide +kernel)⟩
  · exact ⟨cf_ T "Again" (by decide +kernel), T.ko "Again" "Held" false (by decide +kernel)⟩
  · exact ⟨cf_ T "Take" (by decide +kernel), T.ko "Take" "Held" false (by decide +kernel)⟩
  · exact ⟨cf_ T "Across" (by decide +kernel), T.ko "Across" "Held" false (by decide +kernel)⟩
  · exact ⟨cf_ T "TakeAgain" (by decide +kernel), T.ko "TakeAgain" "Held" false (by decide +kernel)⟩
abbrev N_EndD_initD : List Str := ["self", "where", "held"]
theorem sc_EndD_initD : FnScope N_EndD_initD ["self", "where", "held"] (defScope s_EndD_initD) := ⟨rfl, rfl, rfl, by decide +kernel, rfl, by decide +kernel, by decide +kernel⟩
noncomputable def F_EndD_initD : Fn := dfn 3 3 (sSeq (sIf (tOr (tNo (tru (cal (isiF (isiB "str" ["Held", "Ring", "End", "Quiet", "Again", "Take", "Across", "TakeAgain"]) (isTy "str")) (aCons (v 1) (aCons (k (.ty "str")) aNil))))) (tst (bin (inG true) (v 1) (k (.tup [.str "own", .str "other", .str "store", .str "theirs", .str "open", .str "any"]))))) (sSeq (sRai "BadEnd" ["part"] (aCons (k (.str "where")) (aNil))) (sNil)) (sNil)) (sSeq (sIf (tNo (tru (cal (isiF (isiC [("Held", true), ("Ring", false), ("End", false), ("Quiet", false), ("Again", false), ("Take", false), ("Across", false), ("TakeAgain", false)]) (isCl "Held")) (aCons (v 2) (aCons (k (.cls "Held")) aNil))))) (sSeq (sRai "BadEnd" ["part"] (aCons (k (.str "held")) (aNil))) (sNil)) (sNil)) (sSeq (sFldS ["Across", "Again", "End", "Quiet", "Take", "TakeAgain"] "where" (v 0) (v 1)) (sSeq (sFldS ["Across", "Again", "End", "Quiet", "Take", "TakeAgain"] "held" (v 0) (v 2)) (sSeq (sFldS ["Across", "Again", "End", "Quiet", "Take", "TakeAgain"] "full" (v 0) (k (.bl false))) (sNil))))))
theorem w_EndD_initD (T : TX P K mg) : FnF P w K mg base 3 (mO K "End" "__init__") F_EndD_initD := by
  obtain ⟨fd, F⟩ := T.says.def_ 8
  exact okF (j := 2) (st := s_EndD_initD) F sc_EndD_initD rfl rfl (fun _ _ _ _ _ _ us hl => match us, hl with | [_, _, _], _ => rfl) (fun cdv A outer s H E hr => qs_cons (qs_if (qt_w (qw_or (qt_not (qt_tru (qe_blt (cf_isiB (by decide) (ct_str T)) (T.free "isinstance" (by decide +kernel)) (qa_cons (qv 1) (qa_cons (qg_ty (T.free "str" (by decide +kernel)) (by decide +kernel)) qa_nil))))) (qw_or1 (qt_cmp (of_notin (u65 hr)) (qv 1) (qg_tupc (ds := [.str "own", .str "other", .str "store", .str "theirs", .str "open", .str "any"]) (T.glo "PLACES" (by decide +kernel)) (T.tc "PLACES" [.str "own", .str "other", .str "store", .str "theirs", .str "open", .str "any"] (by decide +kernel))))))) (qs_cons (qs_rai1 rfl (oex_of (T.xc "BadEnd" (by decide +kernel)) (T.xi "BadEnd" (by decide +kernel))) (T.meth "BadEnd" "__init__" (by decide +kernel)).at_ (isFn_ty (T.meth "BadEnd" "__init__" (by decide +kernel)).fn) (x_BadEnd T) (hr.mono (by decide)) (xb_BadEnd T) (T.glo "BadEnd" (by decide +kernel)) (qa_cons (qk_str) (qa_nil))) (qs_nil)) (qs_nil)) (qs_cons (qs_if (qt_not (qt_tru (qe_blt (cc_Held T) (T.free "isinstance" (by decide +kernel)) (qa_cons (qv 2) (qa_cons (qg_cls (T.glo "Held" (by decide +kernel))) qa_nil))))) (qs_cons (qs_rai1 rfl (oex_of (T.xc "BadEnd" (by decide +kernel)) (T.xi "BadEnd" (by decide +kernel))) (T.meth "BadEnd" "__init__" (by decide +kernel)).at_ (isFn_ty (T.meth "BadEnd" "__init__" (by decide +kernel)).fn) (x_BadEnd T) (hr.mono (by decide)) (xb_BadEnd T) (T.glo "BadEnd" (by decide +kernel)) (qa_cons (qk_str) (qa_nil))) (qs_nil)) (qs_nil)) (qs_cons (qs_fld (fl_where T) (qv 0) (qv 1)) (qs_cons (qs_fld (fl_held T) (qv 0) (qv 2)) (qs_cons (qs_fld (fl_full T) (qv 0) (qk_bl)) (qs_nil))))))
/-! Across.__init__ -/
abbrev N_AcrossD_initD : List Str := ["self", "where", "held", "full"]
theorem S_AcrossD_initD : SupS N_AcrossD_initD ["self", "where", "held", "full"] (defScope s_AcrossD_initD) := supS_by (by decide +kernel)
theorem hM_AcrossD_initD (T : TX P K mg) : ∀ c F, List.lookup c ([("Across", F_EndD_initD)] : List (String × Fn)) = some F → ∃ f2, Sup K (gaS K c) (He.ga K "Across") (Str.ofString "__init__") f2 ∧ FnF P w K mg base 3 f2 F := by
  intro c F h
  have h := memLk h
  simp only [List.mem_cons, List.not_mem_nil, or_false, Prod.mk.injEq] at h
  rcases h with ⟨rfl, rfl⟩
  · exact ⟨_, T.sup "Across" "Across" "__init__" "End" (by decide +kernel), (w_EndD_initD T).mono (by decide)⟩
noncomputable def B_AcrossD_initD : MS := sSeq (sExp (mtO [("Across", F_EndD_initD)] "__init__" (v 0) (aCons (v 1) (aCons (v 2) (aNil))))) (sSeq (sIf (tNo (tru (cal (isiF (isiB "bool" ["Held", "Ring", "End", "Quiet", "Again", "Take", "Across", "TakeAgain"]) (isTy "bool")) (aCons (v 3) (aCons (k (.ty "bool")) aNil))))) (sSeq (sRai "BadEnd" ["part"] (aCons (k (.str "full")) (aNil))) (sNil)) (sNil)) (sSeq (sFldS ["Across", "Again", "End", "Quiet", "Take", "TakeAgain"] "full" (v 0) (v 3)) (sNil)))
theorem fk_AcrossD_initD (T : TX P K mg) : ∃ cdv fd, SupD P K "__init__" "Across.__init__" (defArgs s_AcrossD_initD) (defBody s_AcrossD_initD) (defScope s_AcrossD_initD) (SupA.dvs K sA_AcrossD_initD) (mO K "Across" "__init__") (He.ga K "Across") cdv (ccOf K (mO K "Across" "__init__")) fd ∧ FnOk P w K mg base (L2.CX P w) 4 (mO K "Across" "__init__") fd ["self", "where", "held", "full"] (spF K (dfn 4 4 B_AcrossD_initD)) := by
  obtain ⟨cdv, fd, SD⟩ := T.sups.def_ (d := sA_AcrossD_initD) 1 T.prog
  have SD : SupD P K "__init__" "Across.__init__" (defArgs s_AcrossD_initD) (defBody s_AcrossD_initD) (defScope s_AcrossD_initD) (SupA.dvs K sA_AcrossD_initD) (mO K "Across" "__init__") (He.ga K "Across") cdv (ccOf K (mO K "Across" "__init__")) fd := SD
  exact ⟨cdv, fd, SD, supOk (j := 3) SD S_AcrossD_initD rfl rfl (T.free "super" (by decide +kernel)) rfl rfl (by decide +kernel) (by decide) (hM_AcrossD_initD T) rfl (fun _ => rfl) (fun _ => rfl) (fun _ => rfl) (fun _ => rfl) (fun A outer s H E hr => qa_cons (qv 1) (qa_cons (qv 2) (qa_nil))) (fun A outer s H E hr => qs_cons (qs_if (qt_not (qt_tru (qe_blt (cf_isiB (by decide) (ct_bool T)) (T.free "isinstance" (by decide +kernel)) (qa_cons (qv 3) (qa_cons (qg_ty (T.free "bool" (by decide +kernel)) (by decide +kernel)) qa_nil))))) (qs_cons (qs_rai1 rfl (oex_of (T.xc "BadEnd" (by decide +kernel)) (T.xi "BadEnd" (by decide +kernel))) (T.meth "BadEnd" "__init__" (by decide +kernel)).at_ (isFn_ty (T.meth "BadEnd" "__init__" (by decide +kernel)).fn) (x_BadEnd T) (hr.mono (by decide)) (xb_BadEnd T) (T.glo "BadEnd" (by decide +kernel)) (qa_cons (qk_str) (qa_nil))) (qs_nil)) (qs_nil)) (qs_cons (qs_fld (fl_full T) (qv 0) (qv 3)) (qs_nil)))⟩
theorem rd_AcrossD_initD : ∀ G, Rps K G [.bl false] (SupA.dvs K sA_AcrossD_initD) := fun G => .cons (.bl _) (.nil)
noncomputable def F_AcrossD_initD : Fn := dfnD 4 4 B_AcrossD_initD [.bl false]
theorem w_AcrossD_initD (T : TX P K mg) : FnF P w K mg base 4 (mO K "Across" "__init__") F_AcrossD_initD := by
  obtain ⟨cdv, fd, SD, Fk⟩ := fk_AcrossD_initD (P := P) (w := w) (base := base) T
  exact supFD SD Fk rfl rfl rd_AcrossD_initD (fun i hi => match i, hi with | 0, _ => supB1 SD 3 0 (List.cons_ne_nil _ _) rfl (fun _ _ _ _ _ _ us its h1 h2 => match us, its, h1, h2 with | [_, _, _], [_], _, _ => ⟨_, rfl, rfl⟩) | 1, _ => supB1 SD 4 1 (List.cons_ne_nil _ _) rfl (fun _ _ _ _ _ _ us its h1 h2 => match us, its, h1, h2 with | [_, _, _, _], [_], _, _ => ⟨_, rfl, rfl⟩))
/-! Ring.opposite -/
abbrev N_Ring_opposite : List Str := ["self", "pit"]
theorem sc_Ring_opposite : FnScope N_Ring_opposite ["self", "pit"] (defScope s_Ring_opposite) := ⟨rfl, rfl, rfl, by decide +kernel, rfl, by decide +kernel, by decide +kernel⟩
noncomputable def F_Ring_opposite : Fn := dfn 2 2 (sSeq (sExp (mtO [("Ring", F_Ring_need_pit)] "need_pit" (v 0) (aCons (v 1) (aNil)))) (sSeq (sRet (bin (modG) (bin (subG) (una (fldG ["Ring"] "across") (v 0)) (v 1)) (cal lenB (aCons (una (fldG ["Ring"] "signs") (v 0)) (aNil))))) (sNil)))
theorem w_Ring_opposite (T : TX P K mg) : FnF P w K mg base 4 (mO K "Ring" "opposite") F_Ring_opposite := by
  obtain ⟨fd, F⟩ := T.says.def_ 9
  exact okF (j := 3) (st := s_Ring_opposite) F sc_Ring_opposite rfl rfl (fun _ _ _ _ _ _ us hl => match us, hl with | [_, _], _ => rfl) (fun cdv A outer s H E hr => qs_cons (qs_exp (qe_mt (mt_End_pits_taken_need_pit_8 T) (hr.mono (by decide)) (qv 0) (qa_cons (qv 1) (qa_nil)))) (qs_cons (qs_ret (qe_bin (of_mod) (qe_bin (of_sub) (qe_fld (fl_across T) (qv 0)) (qv 1)) (qe_blt cf_len (T.free "len" (by decide +kernel)) (qa_cons (qe_fld (fl_signs T) (qv 0)) (qa_nil))))) (qs_nil)))
/-! Across.pits_taken -/
theorem mt_Across_pits_taken_opposite_13 {X : Cx} (T : TX X.prog X.K X.mg) : Mths X 4 "opposite" [("Ring", F_Ring_opposite)] := by
  intro c F h
  have h := memLk h
  simp only [List.mem_cons, List.not_mem_nil, or_false, Prod.mk.injEq] at h
  rcases h with ⟨rfl, rfl⟩
  · exact ⟨T.cl "Ring" (by decide +kernel), _, T.meth "Ring" "opposite" (by decide +kernel), (w_Ring_opposite T).mono (by decide)⟩
abbrev N_Across_pits_taken : List Str := ["self", "ring", "pit"]
theorem sc_Across_pits_taken : FnScope N_Across_pits_taken ["self", "ring", "pit"] (defScope s_Across_pits_taken) := ⟨rfl, rfl, rfl, by decide +kernel, rfl, by decide +kernel, by decide +kernel⟩
noncomputable def B_Across_pits_taken : MS := sSeq (sExp (mtO [("Ring", F_Ring_need_pit)] "need_pit" (v 1) (aCons (v 2) (aNil)))) (sSeq (sRet (cal tupB (aCons (srtSet (lstE (aCons (cal intB (aCons (v 2) (aNil))) (aCons (cal intB (aCons (mtO [("Ring", F_Ring_opposite)] "opposite" (v 1) (aCons (v 2) (aNil))) (aNil))) (aNil))))) (aNil)))) (sNil))
theorem b_Across_pits_taken (T : TX P K mg) : ∀ (cdv : Value) (A : Around) (outer : List Env) (s : Shared) (H : Hp) (E : XK), Room 4 (A.deeper (envOfC "Across.pits_taken" (defScope s_Across_pits_taken) s.heap.objs.size (mO K "Across" "pits_taken") cdv)) → QSs (cxOf (L2.CX P w) P w K mg base N_Across_pits_taken "Across.pits_taken" (defScope s_Across_pits_taken) (mO K "Across" "pits_taken") cdv A outer s H E) (defBody s_Across_pits_taken) B_Across_pits_taken := fun cdv A outer s H E hr => qs_cons (qs_exp (qe_mt (mt_End_pits_taken_need_pit_8 T) (hr.mono (by decide)) (qv 1) (qa_cons (qv 2) (qa_nil)))) (qs_cons (qs_ret (qe_typ cf_tup (T.free "tuple" (by decide +kernel)) (qa_cons (qe_srtSet (T.free "sorted" (by decide +kernel)) (T.free "set" (by decide +kernel)) (qe_lst (qa_cons (qe_typ cf_int (T.free "int" (by decide +kernel)) (qa_cons (qv 2) (qa_nil))) (qa_cons (qe_typ cf_int (T.free "int" (by decide +kernel)) (qa_cons (qe_mt (mt_Across_pits_taken_opposite_13 T) (hr.mono (by decide)) (qv 1) (qa_cons (qv 2) (qa_nil))) (qa_nil))) (qa_nil))))) (qa_nil)))) (qs_nil))
noncomputable def F_Across_pits_taken : Fn := dfn 3 3 B_Across_pits_taken
theorem w_Across_pits_taken (T : TX P K mg) : FnF P w K mg base 5 (mO K "Across" "pits_taken") F_Across_pits_taken := by
  obtain ⟨fd, F⟩ := T.says.def_ 10
  exact okF (j := 4) (st := s_Across_pits_taken) F sc_Across_pits_taken rfl rfl (fun _ _ _ _ _ _ us hl => match us, hl with | [_, _, _], _ => rfl) (b_Across_pits_taken T)
/-! _law_pen -/
abbrev N_law_pen : List Str := ["_law_script"]
theorem sc_law_pen : FnScope N_law_pen ["_law_script"] (defScope s_law_pen) := ⟨rfl, rfl, rfl, by decide +kernel, rfl, by decide +kernel, by decide +kernel⟩
noncomputable def F_law_pen : Fn := dfn 1 1 (sSeq (sRet (lstM (aCons (cal listB (aCons (sli (v 0) (oNo) (oSo (k (.int 63)))) (aNil))) (aCons (k (.int 0)) (aCons (k (.int 0)) (aNil)))))) (sNil))
theorem w_law_pen (T : TX P K mg) : FnFG P w K mg base 1 (He.ga K "_law_pen") F_law_pen := by
  obtain ⟨fd, F⟩ := T.says.def_ 11
  exact okFG (j := 0) (st := s_law_pen) F sc_law_pen rfl rfl (fun _ _ _ _ _ _ us hl => match us, hl with | [_], _ => rfl) (fun cdv A outer s H E hgd hr => qs_cons (qs_ret (qe_lstM (qa_cons (qe_typ cf_list (T.free "list" (by decide +kernel)) (qa_cons (qe_sli (qv 0) (qo_none) (qo_some (qk_int))) (qa_nil))) (qa_cons (qk_int) (qa_cons (qk_int) (qa_nil)))))) (qs_nil))
/-! _law_draw -/
abbrev N_law_draw : List Str := ["_law_pen_here", "_law_many", "_law_digit", "_law_spot", "_law_cell", "_law_great", "_law_mixed"]
theorem sc_law_draw : FnScope N_law_draw ["_law_pen_here", "_law_many"] (defScope s_law_draw) := ⟨rfl, rfl, rfl, by decide +kernel, rfl, by decide +kernel, by decide +kernel⟩
noncomputable def F_law_draw : Fn := dfn 2 7 (sSeq (sIf (tst (bin (gtG) (bin ixG (v 0) (k (.int 2))) (k (.int 0)))) (sSeq (sSet 2 (bin (modG) (cal intB (aCons (bin ixG (v 0) (k (.int 2))) (aNil))) (v 1))) (sSeq (sSub (v 0) (k (.int 2)) (bin (fdivG) (cal intB (aCons (bin ixG (v 0) (k (.int 2))) (aNil))) (v 1))) (sSeq (sRet (v 2)) (sNil)))) (sNil)) (sSeq (sSet 3 (bin ixG (v 0) (k (.int 1)))) (sSeq (sSub (v 0) (k (.int 1)) (bin (addG) (v 3) (k (.int 1)))) (sSeq (sSet 4 (bin (addG) (bin (mulG) (k (.int 46636)) (v 3)) (k (.int 596)))) (sSeq (sIf (tst (bin (eqG true) (bin ixG (v 0) (k (.int 0))) (lstE (aNil)))) (sSeq (sSet 4 (bin ixG (bin ixG (v 0) (k (.int 0))) (bin (modG) (cal intB (aCons (v 3) (aNil))) (cal lenB (aCons (bin ixG (v 0) (k (.int 0))) (aNil)))))) (sNil)) (sNil)) (sSeq (sIf (tAn (tst (bin (ltG) (v 3) (cal lenB (aCons (bin ixG (v 0) (k (.int 0))) (aNil))))) (tst (bin (geG) (cal absB (aCons (v 4) (aNil))) (bin (powG) (k (.int 10)) (k (.int 18)))))) (sSeq (sSet 5 (bin (addG) (bin (mulG) (k (.int 2)) (bin (subG) (cal absB (aCons (v 4) (aNil))) (bin (powG) (k (.int 10)) (k (.int 18))))) (cal intB (aCons (bin (ltG) (v 4) (k (.int 0))) (aNil))))) (sSeq (sSub (v 0) (k (.int 2)) (bin (fdivG) (cal intB (aCons (v 5) (aNil))) (v 1))) (sSeq (sRet (bin (modG) (cal intB (aCons (v 5) (aNil))) (v 1))) (sNil)))) (sNil)) (sSeq (sSet 6 (bin (modG) (cal intB (aCons (bin (powG) (bin (addG) (bin (addG) (bin (modG) (cal intB (aCons (v 4) (aNil))) (k (.int 2147483477))) (bin (mulG) (k (.int 51904)) (v 3))) (k (.int 108))) (k (.int 5))) (aNil))) (k (.int 2147483489)))) (sSeq (sSet 6 (bin (modG) (cal intB (aCons (bin (powG) (bin (addG) (bin (addG) (bin (mulG) (v 6) (bin (addG) (bin (mulG) (k (.int 2)) (v 3)) (k (.int 77)))) (bin (mulG) (bin (mulG) (k (.int 50688)) (v 3)) (v 3))) (k (.int 19))) (k (.int 3))) (aNil))) (k (.int 2147483497)))) (sSeq (sRet (bin (modG) (cal intB (aCons (bin (fdivG) (v 6) (k (.int 32))) (aNil))) (v 1))) (sNil))))))))))
theorem w_law_draw (T : TX P K mg) : FnFG P w K mg base 1 (He.ga K "_law_draw") F_law_draw := by
  obtain ⟨fd, F⟩ := T.says.def_ 12
  exact okFG (j := 0) (st := s_law_draw) F sc_law_draw rfl rfl (fun _ _ _ _ _ _ us hl => match us, hl with | [_, _], _ => rfl) (fun cdv A outer s H E hgd hr => qs_cons (qs_if (qt_cmp (of_gt) (qe_ix (qv 0) (qk_int)) (qk_int)) (qs_cons (qs_set 2 (qe_bin (of_mod) (qe_typ cf_int (T.free "int" (by decide +kernel)) (qa_cons (qe_ix (qv 0) (qk_int)) (qa_nil))) (qv 1)) sc_law_draw.nd) (qs_cons (qs_sub (qv 0) (qk_int) (qe_bin (of_fdiv) (qe_typ cf_int (T.free "int" (by decide +kernel)) (qa_cons (qe_ix (qv 0) (qk_int)) (qa_nil))) (qv 1))) (qs_cons (qs_ret (qv 2)) (qs_nil)))) (qs_nil)) (qs_cons (qs_set 3 (qe_ix (qv 0) (qk_int)) sc_law_draw.nd) (qs_cons (qs_sub (qv 0) (qk_int) (qe_bin (of_add) (qv 3) (qk_int))) (qs_cons (qs_set 4 (qe_bin (of_add) (qe_bin (of_mul) (qk_int) (qv 3)) (qk_int)) sc_law_draw.nd) (qs_cons (qs_if (qt_cmp (of_ne hr.units) (qe_ix (qv 0) (qk_int)) (qe_lst (qa_nil))) (qs_cons (qs_set 4 (qe_ix (qe_ix (qv 0) (qk_int)) (qe_bin (of_mod) (qe_typ cf_int (T.free "int" (by decide +kernel)) (qa_cons (qv 3) (qa_nil))) (qe_blt cf_len (T.free "len" (by decide +kernel)) (qa_cons (qe_ix (qv 0) (qk_int)) (qa_nil))))) sc_law_draw.nd) (qs_nil)) (qs_nil)) (qs_cons (qs_if (qt_w (qw_and (qt_cmp (of_lt) (qv 3) (qe_blt cf_len (T.free "len" (by decide +kernel)) (qa_cons (qe_ix (qv 0) (qk_int)) (qa_nil)))) (qw_and1 (qt_cmp (of_ge) (qe_blt cf_abs (T.free "abs" (by decide +kernel)) (qa_cons (qv 4) (qa_nil))) (qe_bin (of_pow) (qk_int) (qk_int)))))) (qs_cons (qs_set 5 (qe_bin (of_add) (qe_bin (of_mul) (qk_int) (qe_bin (of_sub) (qe_blt cf_abs (T.free "abs" (by decide +kernel)) (qa_cons (qv 4) (qa_nil))) (qe_bin (of_pow) (qk_int) (qk_int)))) (qe_typ cf_int (T.free "int" (by decide +kernel)) (qa_cons (qe_cmp (of_lt) (qv 4) (qk_int)) (qa_nil)))) sc_law_draw.nd) (qs_cons (qs_sub (qv 0) (qk_int) (qe_bin (of_fdiv) (qe_typ cf_int (T.free "int" (by decide +kernel)) (qa_cons (qv 5) (qa_nil))) (qv 1))) (qs_cons (qs_ret (qe_bin (of_mod) (qe_typ cf_int (T.free "int" (by decide +kernel)) (qa_cons (qv 5) (qa_nil))) (qv 1))) (qs_nil)))) (qs_nil)) (qs_cons (qs_set 6 (qe_bin (of_mod) (qe_typ cf_int (T.free "int" (by decide +kernel)) (qa_cons (qe_bin (of_pow) (qe_bin (of_add) (qe_bin (of_add) (qe_bin (of_mod) (qe_typ cf_int (T.free "int" (by decide +kernel)) (qa_cons (qv 4) (qa_nil))) (qk_int)) (qe_bin (of_mul) (qk_int) (qv 3))) (qk_int)) (qk_int)) (qa_nil))) (qk_int)) sc_law_draw.nd) (qs_cons (qs_set 6 (qe_bin (of_mod) (qe_typ cf_int (T.free "int" (by decide +kernel)) (qa_cons (qe_bin (of_pow) (qe_bin (of_add) (qe_bin (of_add) (qe_bin (of_mul) (qv 6) (qe_bin (of_add) (qe_bin (of_mul) (qk_int) (qv 3)) (qk_int))) (qe_bin (of_mul) (qe_bin (of_mul) (qk_int) (qv 3)) (qv 3))) (qk_int)) (qk_int)) (qa_nil))) (qk_int)) sc_law_draw.nd) (qs_cons (qs_ret (qe_bin (of_mod) (qe_typ cf_int (T.free "int" (by decide +kernel)) (qa_cons (qe_bin (of_fdiv) (qv 6) (qk_int)) (qa_nil))) (qv 1))) (qs_nil))))))))))
/-! _law_pick -/
abbrev N_law_pick : List Str := ["_law_pen_here", "_law_some"]
theorem sc_law_pick : FnScope N_law_pick ["_law_pen_here", "_law_some"] (defScope s_law_pick) := ⟨rfl, rfl, rfl, by decide +kernel, rfl, by decide +kernel, by decide +kernel⟩
noncomputable def F_law_pick : Fn := dfn 2 2 (sSeq (sRet (bin ixG (v 1) (cal F_law_draw (aCons (v 0) (aCons (cal lenB (aCons (v 1) (aNil))) (aNil)))))) (sNil))
theorem w_law_pick (T : TX P K mg) : FnFG P w K mg base 2 (He.ga K "_law_pick") F_law_pick := by
  obtain ⟨fd, F⟩ := T.says.def_ 13
  exact okFG (j := 1) (st := s_law_pick) F sc_law_pick rfl rfl (fun _ _ _ _ _ _ us hl => match us, hl with | [_, _], _ => rfl) (fun cdv A outer s H E hgd hr => qs_cons (qs_ret (qe_ix (qv 1) (qe_callG (w_law_draw T) hgd (hr.mono (by decide)) (T.glo "_law_draw" (by decide +kernel)) (kp_law_draw T) (qa_cons (qv 0) (qa_cons (qe_blt cf_len (T.free "len" (by decide +kernel)) (qa_cons (qv 1) (qa_nil))) (qa_nil)))))) (qs_nil))
/-! _law_signs -/
abbrev N_law_signs : List Str := ["_law_pen_here", "_law_found", "_law_k", "_law_sign"]
theorem sc_law_signs : FnScope N_law_signs ["_law_pen_here"] (defScope s_law_signs) := ⟨rfl, rfl, rfl, by decide +kernel, rfl, by decide +kernel, by decide +kernel⟩
noncomputable def F_law_signs : Fn := dfn 1 4 (sSeq (sSet 1 (k (.str ""))) (sSeq (sFor (.nm 2) (iR1 (aCons (bin (addG) (k (.int 2)) (cal F_law_draw (aCons (v 0) (aCons (k (.int 5)) (aNil))))) (aNil))) (sSeq (sSet 3 (cal F_law_pick (aCons (v 0) (aCons (lstE (aCons (k (.str "a")) (aCons (k (.str "a")) (aCons (k (.str "b")) (aCons (k (.str "b")) (aCons (k (.str "A")) (aCons (k (.str "B")) (aCons (k (.str "o")) (aNil))))))))) (aNil))))) (sSeq (sIf (tAn (tst (bin (inG false) (v 3) (k (.str "AB")))) (tst (bin (inG false) (v 3) (v 1)))) (sSeq (sSet 3 (cal F_law_pick (aCons (v 0) (aCons (lstE (aCons (k (.str "a")) (aCons (k (.str "o")) (aNil)))) (aNil))))) (sNil)) (sNil)) (sSeq (sSet 1 (bin (addG) (v 1) (v 3))) (sNil))))) (sSeq (sRet (v 1)) (sNil))))
theorem w_law_signs (T : TX P K mg) : FnFG P w K mg base 3 (He.ga K "_law_signs") F_law_signs := by
  obtain ⟨fd, F⟩ := T.says.def_ 14
  exact okFG (j := 2) (st := s_law_signs) F sc_law_signs rfl rfl (fun _ _ _ _ _ _ us hl => match us, hl with | [_], _ => rfl) (fun cdv A outer s H E hgd hr => qs_cons (qs_set 1 (qk_str) sc_law_signs.nd) (qs_cons (qs_for (passes_of rfl) rfl (qi_range1 (T.free "range" (by decide +kernel)) (qa_cons (qe_bin (of_add) (qk_int) (qe_callG (w_law_draw T) hgd (hr.mono (by decide)) (T.glo "_law_draw" (by decide +kernel)) (kp_law_draw T) (qa_cons (qv 0) (qa_cons (qk_int) (qa_nil))))) (qa_nil))) (qg_name 2 sc_law_signs.nd) (qs_cons (qs_set 3 (qe_callG (w_law_pick T) hgd (hr.mono (by decide)) (T.glo "_law_pick" (by decide +kernel)) (kp_law_pick T) (qa_cons (qv 0) (qa_cons (qe_lst (qa_cons (qk_str) (qa_cons (qk_str) (qa_cons (qk_str) (qa_cons (qk_str) (qa_cons (qk_str) (qa_cons (qk_str) (qa_cons (qk_str) (qa_nil))))))))) (qa_nil)))) sc_law_signs.nd) (qs_cons (qs_if (qt_w (qw_and (qt_cmp (of_in (u65 hr)) (qv 3) (qk_str)) (qw_and1 (qt_cmp (of_in (u65 hr)) (qv 3) (qv 1))))) (qs_cons (qs_set 3 (qe_callG (w_law_pick T) hgd (hr.mono (by decide)) (T.glo "_law_pick" (by decide +kernel)) (kp_law_pick T) (qa_cons (qv 0) (qa_cons (qe_lst (qa_cons (qk_str) (qa_cons (qk_str) (qa_nil)))) (qa_nil)))) sc_law_signs.nd) (qs_nil)) (qs_nil)) (qs_cons (qs_set 1 (qe_bin (of_add) (qv 1) (qv 3)) sc_law_signs.nd) (qs_nil))))) (qs_cons (qs_ret (qv 1)) (qs_nil))))
/-! _law_numbers -/
abbrev N_law_numbers : List Str := ["_law_pen_here", "_law_n"]
theorem sc_law_numbers : FnScope N_law_numbers ["_law_pen_here"] (defScope s_law_numbers) := ⟨rfl, rfl, rfl, by decide +kernel, rfl, by decide +kernel, by decide +kernel⟩
noncomputable def F_law_numbers : Fn := dfn 1 2 (sSeq (sRet (tupE (aCons (lcE (.nm 1) (iR1 (aCons (k (.int 4)) (aNil))) (tst (bin (eqG false) (cal F_law_draw (aCons (v 0) (aCons (k (.int 2)) (aNil)))) (k (.int 0)))) (v 1)) (aCons (bin (eqG false) (cal F_law_draw (aCons (v 0) (aCons (k (.int 3)) (aNil)))) (k (.int 0))) (aNil))))) (sNil))
theorem w_law_numbers (T : TX P K mg) : FnFG P w K mg base 2 (He.ga K "_law_numbers") F_law_numbers := by
  obtain ⟨fd, F⟩ := T.says.def_ 15
  exact okFG (j := 1) (st := s_law_numbers) F sc_law_numbers rfl rfl (fun _ _ _ _ _ _ us hl => match us, hl with | [_], _ => rfl) (fun cdv A outer s H E hgd hr => qs_cons (qs_ret (qe_tup (qa_cons (qe_lc (own := [("_law_n", 1)]) (.nm 1) rfl rfl sc_law_numbers.nd (qi_range1 (T.free "range" (by decide +kernel)) (qa_cons (qk_int) (qa_nil))) (blkOk_by (N := N_law_numbers) (sc := defScope s_law_numbers) (by decide +kernel)) (fun _ _ _ _ _ => qg_name 1 sc_law_numbers.nd) (fun _ _ _ _ _ => qts_one (qt_cmp (of_eq hr.units) (qe_callG (w_law_draw T) hgd (hr.mono (by decide)) (T.glo "_law_draw" (by decide +kernel)) (kp_law_draw T) (qa_cons (qv 0) (qa_cons (qk_int) (qa_nil)))) (qk_int))) (fun _ _ _ _ _ => qv 1)) (qa_cons (qe_cmp (of_eq hr.units) (qe_callG (w_law_draw T) hgd (hr.mono (by decide)) (T.glo "_law_draw" (by decide +kernel)) (kp_law_draw T) (qa_cons (qv 0) (qa_cons (qk_int) (qa_nil)))) (qk_int)) (qa_nil))))) (qs_nil))
/-! _law_end -/
abbrev N_law_end : List Str := ["_law_pen_here", "_law_word", "_law_place"]
theorem sc_law_end : FnScope N_law_end ["_law_pen_here"] (defScope s_law_end) := ⟨rfl, rfl, rfl, by decide +kernel, rfl, by decide +kernel, by decide +kernel⟩
noncomputable def F_law_end : Fn := dfn 1 3 (sSeq (sSet 1 (cal F_law_pick (aCons (v 0) (aCons (lstE (aCons (k (.str "quiet")) (aCons (k (.str "again")) (aCons (k (.str "take")) (aCons (k (.str "across")) (aCons (k (.str "across")) (aCons (k (.str "takeagain")) (aNil)))))))) (aNil))))) (sSeq (sSet 2 (cal F_law_pick (aCons (v 0) (aCons (lstE (aCons (k (.str "own")) (aCons (k (.str "other")) (aCons (k (.str "store")) (aCons (k (.str "theirs")) (aCons (k (.str "open")) (aCons (k (.str "any")) (aCons (k (.str "any")) (aNil))))))))) (aNil))))) (sSeq (sRet (tupE (aCons (v 1) (aCons (v 2) (aCons (cal F_law_numbers (aCons (v 0) (aNil))) (aCons (anE (bin (eqG false) (v 1) (k (.str "across"))) (bin (eqG false) (cal F_law_draw (aCons (v 0) (aCons (k (.int 2)) (aNil)))) (k (.int 0)))) (aNil))))))) (sNil))))
theorem w_law_end (T : TX P K mg) : FnFG P w K mg base 3 (He.ga K "_law_end") F_law_end := by
  obtain ⟨fd, F⟩ := T.says.def_ 16
  exact okFG (j := 2) (st := s_law_end) F sc_law_end rfl rfl (fun _ _ _ _ _ _ us hl => match us, hl with | [_], _ => rfl) (fun cdv A outer s H E hgd hr => qs_cons (qs_set 1 (qe_callG (w_law_pick T) hgd (hr.mono (by decide)) (T.glo "_law_pick" (by decide +kernel)) (kp_law_pick T) (qa_cons (qv 0) (qa_cons (qe_lst (qa_cons (qk_str) (qa_cons (qk_str) (qa_cons (qk_str) (qa_cons (qk_str) (qa_cons (qk_str) (qa_cons (qk_str) (qa_nil)))))))) (qa_nil)))) sc_law_end.nd) (qs_cons (qs_set 2 (qe_callG (w_law_pick T) hgd (hr.mono (by decide)) (T.glo "_law_pick" (by decide +kernel)) (kp_law_pick T) (qa_cons (qv 0) (qa_cons (qe_lst (qa_cons (qk_str) (qa_cons (qk_str) (qa_cons (qk_str) (qa_cons (qk_str) (qa_cons (qk_str) (qa_cons (qk_str) (qa_cons (qk_str) (qa_nil))))))))) (qa_nil)))) sc_law_end.nd) (qs_cons (qs_ret (qe_tup (qa_cons (qv 1) (qa_cons (qv 2) (qa_cons (qe_callG (w_law_numbers T) hgd (hr.mono (by decide)) (T.glo "_law_numbers" (by decide +kernel)) (kp_law_numbers T) (qa_cons (qv 0) (qa_nil))) (qa_cons (qe_and (qe_cmp (of_eq hr.units) (qv 1) (qk_str)) (qe_one (qe_cmp (of_eq hr.units) (qe_callG (w_law_draw T) hgd (hr.mono (by decide)) (T.glo "_law_draw" (by decide +kernel)) (kp_law_draw T) (qa_cons (qv 0) (qa_cons (qk_int) (qa_nil)))) (qk_int)))) (qa_nil))))))) (qs_nil))))
/-! held_of -/
abbrev N_held_of : List Str := ["truths", "listed", "n", "is_endless"]
theorem sc_held_of : FnScope N_held_of ["truths"] (defScope s_held_of) := ⟨rfl, rfl, rfl, by decide +kernel, rfl, by decide +kernel, by decide +kernel⟩
noncomputable def F_held_of : Fn := dfn 1 4 (sSeq (sSet 1 (lcE (.nm 2) (iR1 (aCons (bin (addG) (k (.int 3)) (k (.int 1))) (aNil))) (tru (bin ixG (v 0) (v 2))) (v 2))) (sSeq (sSet 3 (bin ixG (v 0) (una negG (k (.int 1))))) (sSeq (sRet (itemsK (mkF "Held" FK_HeldD_initD) (v 1) (v 3))) (sNil))))
theorem w_held_of (T : TX P K mg) : FnF P w K mg base 5 (He.ga K "held_of") F_held_of := by
  obtain ⟨fd, F⟩ := T.says.def_ 17
  exact okF (j := 4) (st := s_held_of) F sc_held_of rfl rfl (fun _ _ _ _ _ _ us hl => match us, hl with | [_], _ => rfl) (fun cdv A outer s H E hr => qs_cons (qs_setLc 1 (own := [("n", 2)]) (.nm 2) rfl rfl sc_held_of.nd (qi_range1 (T.free "range" (by decide +kernel)) (qa_cons (qe_bin (of_add) (qg_int (T.intc "MOST_NUMBER" 3 (by decide +kernel))) (qk_int)) (qa_nil))) (blkOk_by (N := N_held_of) (sc := defScope s_held_of) (by decide +kernel)) (fun _ _ _ _ _ => qg_name 2 sc_held_of.nd) (fun _ _ _ _ _ => qts_one (qt_tru (qe_ix (qv 0) (qv 2)))) (fun _ _ _ _ _ => qv 2)) (qs_cons (qs_set 3 (qe_ix (qv 0) (qe_un of_neg (qk_int))) sc_held_of.nd) (qs_cons (qs_ret (qe_mkSK mk_frozen (T.mkr "Held" (by decide +kernel)) (wK_HeldD_initD T) (hr.mono (by decide)) (T.glo "Held" (by decide +kernel)) (qv 1) (qv 3))) (qs_nil))))
/-! Held.onward -/
abbrev N_Held_onward : List Str := ["n", "k"]
theorem sc_Held_onward : FnScope N_Held_onward ["n"] (defScope s_Held_onward) := ⟨rfl, rfl, rfl, by decide +kernel, rfl, by decide +kernel, by decide +kernel⟩
noncomputable def F_Held_onward : Fn := dfn 1 2 (sSeq (sIf (tNo (tru (cal F_is_between (aCons (v 0) (aCons (k (.int 0)) (aCons (bin (addG) (k (.int 3)) (k (.int 1))) (aNil))))))) (sSeq (sRai "BadHeld" ["value"] (aCons (v 0) (aNil))) (sNil)) (sNil)) (sSeq (sRet (cal F_held_of (aCons (lcE (.nm 1) (iR1 (aCons (bin (addG) (k (.int 3)) (k (.int 2))) (aNil))) (tYs) (bin (geG) (v 1) (v 0))) (aNil)))) (sNil)))
theorem w_Held_onward (T : TX P K mg) : FnF P w K mg base 6 (uO K "Held" "onward") F_Held_onward := by
  obtain ⟨fd, F⟩ := T.says.def_ 18
  exact okF (j := 5) (st := s_Held_onward) F sc_Held_onward rfl rfl (fun _ _ _ _ _ _ us hl => match us, hl with | [_], _ => rfl) (fun cdv A outer s H E hr => qs_cons (qs_if (qt_not (qt_tru (qe_call (w_is_between T) (hr.mono (by decide)) (T.glo "is_between" (by decide +kernel)) (kp_is_between T) (qa_cons (qv 0) (qa_cons (qk_int) (qa_cons (qe_bin (of_add) (qg_int (T.intc "MOST_NUMBER" 3 (by decide +kernel))) (qk_int)) (qa_nil))))))) (qs_cons (qs_rai1 rfl (oex_of (T.xc "BadHeld" (by decide +kernel)) (T.xi "BadHeld" (by decide +kernel))) (T.meth "BadHeld" "__init__" (by decide +kernel)).at_ (isFn_ty (T.meth "BadHeld" "__init__" (by decide +kernel)).fn) (x_BadHeld T) (hr.mono (by decide)) (xb_BadHeld T) (T.glo "BadHeld" (by decide +kernel)) (qa_cons (qv 0) (qa_nil))) (qs_nil)) (qs_nil)) (qs_cons (qs_ret (qe_call (w_held_of T) (hr.mono (by decide)) (T.glo "held_of" (by decide +kernel)) (kp_held_of T) (qa_cons (qe_lc (own := [("k", 1)]) (.nm 1) rfl rfl sc_Held_onward.nd (qi_range1 (T.free "range" (by decide +kernel)) (qa_cons (qe_bin (of_add) (qg_int (T.intc "MOST_NUMBER" 3 (by decide +kernel))) (qk_int)) (qa_nil))) (blkOk_by (N := N_Held_onward) (sc := defScope s_Held_onward) (by decide +kernel)) (fun _ _ _ _ _ => qg_name 1 sc_Held_onward.nd) (fun _ _ _ _ _ => pts_yes) (fun _ _ _ _ _ => qe_cmp (of_ge) (qv 1) (qv 0))) (qa_nil)))) (qs_nil)))
/-! Held.none -/
abbrev N_Held_none : List Str := []
theorem sc_Held_none : FnScope N_Held_none [] (defScope s_Held_none) := ⟨rfl, rfl, rfl, by decide +kernel, rfl, by decide +kernel, by decide +kernel⟩
noncomputable def F_Held_none : Fn := dfn 0 0 (sSeq (sRet (cal (mkF "Held" F_HeldD_initD) aNil)) (sNil))
theorem w_Held_none (T : TX P K mg) : FnF P w K mg base 5 (uO K "Held" "none") F_Held_none := by
  obtain ⟨fd, F⟩ := T.says.def_ 19
  exact okF (j := 4) (st := s_Held_none) F sc_Held_none rfl rfl (fun _ _ _ _ _ _ us hl => match us, hl with | [], _ => rfl) (fun cdv A outer s H E hr => qs_cons (qs_ret (qe_mk0 mk_frozen (T.mkr "Held" (by decide +kernel)) (w_HeldD_initD T) (hr.mono (by decide)) (T.glo "Held" (by decide +kernel)))) (qs_nil))
/-! Held.need_held -/
abbrev N_Held_need_held : List Str := ["self", "other"]
theorem sc_Held_need_held : FnScope N_Held_need_held ["self", "other"] (defScope s_Held_need_held) := ⟨rfl, rfl, rfl, by decide +kernel, rfl, by decide +kernel, by decide +kernel⟩
noncomputable def F_Held_need_held : Fn := dfn 2 2 (sSeq (sIf (tNo (tru (cal (isiF (isiC [("Held", true), ("Ring", false), ("End", false), ("Quiet", false), ("Again", false), ("Take", false), ("Across", false), ("TakeAgain", false)]) (isCl "Held")) (aCons (v 1) (aCons (k (.cls "Held")) aNil))))) (sSeq (sRai "Unlike" [] aNil) (sNil)) (sNil)) (sNil))
theorem w_Held_need_held (T : TX P K mg) : FnF P w K mg base 3 (mO K "Held" "need_held") F_Held_need_held := by
  obtain ⟨fd, F⟩ := T.says.def_ 20
  exact okF (j := 2) (st := s_Held_need_held) F sc_Held_need_held rfl rfl (fun _ _ _ _ _ _ us hl => match us, hl with | [_, _], _ => rfl) (fun cdv A outer s H E hr => qs_cons (qs_if (qt_not (qt_tru (qe_blt (cc_Held T) (T.free "isinstance" (by decide +kernel)) (qa_cons (qv 1) (qa_cons (qg_cls (T.glo "Held" (by decide +kernel))) qa_nil))))) (qs_cons (qs_rai0 rfl (T.xn "Unlike" (by decide +kernel)) (T.xc "Unlike" (by decide +kernel)) (T.glo "Unlike" (by decide +kernel))) (qs_nil)) (qs_nil)) (qs_nil))
/-! Held.truths -/
abbrev N_Held_truths : List Str := ["self", "n"]
theorem sc_Held_truths : FnScope N_Held_truths ["self"] (defScope s_Held_truths) := ⟨rfl, rfl, rfl, by decide +kernel, rfl, by decide +kernel, by decide +kernel⟩
noncomputable def F_Held_truths : Fn := dfn 1 2 (sSeq (sRet (lstE (aStar (lcE (.nm 1) (iR1 (aCons (bin (addG) (k (.int 3)) (k (.int 1))) (aNil))) (tYs) (bin (inG false) (v 1) (una (fldG ["Held"] "listed") (v 0)))) (aCons (una (fldG ["Held"] "is_endless") (v 0)) (aNil))))) (sNil))
theorem w_Held_truths (T : TX P K mg) : FnF P w K mg base 1 (mO K "Held" "truths") F_Held_truths := by
  obtain ⟨fd, F⟩ := T.says.def_ 21
  exact okF (j := 0) (st := s_Held_truths) F sc_Held_truths rfl rfl (fun _ _ _ _ _ _ us hl => match us, hl with | [_], _ => rfl) (fun cdv A outer s H E hr => qs_cons (qs_ret (qe_lst (qa_star (qe_lc (own := [("n", 1)]) (.nm 1) rfl rfl sc_Held_truths.nd (qi_range1 (T.free "range" (by decide +kernel)) (qa_cons (qe_bin (of_add) (qg_int (T.intc "MOST_NUMBER" 3 (by decide +kernel))) (qk_int)) (qa_nil))) (blkOk_by (N := N_Held_truths) (sc := defScope s_Held_truths) (by decide +kernel)) (fun _ _ _ _ _ => qg_name 1 sc_Held_truths.nd) (fun _ _ _ _ _ => pts_yes) (fun _ _ _ _ _ => qe_cmp (of_in (u65 hr)) (qv 1) (qe_fld (fl_listed T) (qv 0)))) (qa_cons (qe_fld (fl_is_endless T) (qv 0)) (qa_nil))))) (qs_nil))
/-! Held.pairs -/
theorem mt_Held_pairs_truths_14 {X : Cx} (T : TX X.prog X.K X.mg) : Mths X 1 "truths" [("Held", F_Held_truths)] := by
  intro c F h
  have h := memLk h
  simp only [List.mem_cons, List.not_mem_nil, or_false, Prod.mk.injEq] at h
  rcases h with ⟨rfl, rfl⟩
  · exact ⟨T.cl "Held" (by decide +kernel), _, T.meth "Held" "truths" (by decide +kernel), (w_Held_truths T).mono (by decide)⟩
theorem mt_Held_pairs_need_held_15 {X : Cx} (T : TX X.prog X.K X.mg) : Mths X 3 "need_held" [("Held", F_Held_need_held)] := by
  intro c F h
  have h := memLk h
  simp only [List.mem_cons, List.not_mem_nil, or_false, Prod.mk.injEq] at h
  rcases h with ⟨rfl, rfl⟩
  · exact ⟨T.cl "Held" (by decide +kernel), _, T.meth "Held" "need_held" (by decide +kernel), (w_Held_need_held T).mono (by decide)⟩
abbrev N_Held_pairs : List Str := ["self", "other"]
theorem sc_Held_pairs : FnScope N_Held_pairs ["self", "other"] (defScope s_Held_pairs) := ⟨rfl, rfl, rfl, by decide +kernel, rfl, by decide +kernel, by decide +kernel⟩
noncomputable def F_Held_pairs : Fn := dfn 2 2 (sSeq (sExp (mtO [("Held", F_Held_need_held)] "need_held" (v 0) (aCons (v 1) (aNil)))) (sSeq (sRet (lzE (aCons (mtO [("Held", F_Held_truths)] "truths" (v 0) aNil) (aCons (mtO [("Held", F_Held_truths)] "truths" (v 1) aNil) (aNil))))) (sNil)))
theorem w_Held_pairs (T : TX P K mg) : FnF P w K mg base 4 (mO K "Held" "pairs") F_Held_pairs := by
  obtain ⟨fd, F⟩ := T.says.def_ 22
  exact okF (j := 3) (st := s_Held_pairs) F sc_Held_pairs rfl rfl (fun _ _ _ _ _ _ us hl => match us, hl with | [_, _], _ => rfl) (fun cdv A outer s H E hr => qs_cons (qs_exp (qe_mt (mt_Held_pairs_need_held_15 T) (hr.mono (by decide)) (qv 0) (qa_cons (qv 1) (qa_nil)))) (qs_cons (qs_ret (qe_lz (T.free "list" (by decide +kernel)) (T.free "zip" (by decide +kernel)) (qa_cons (qe_mt0 (mt_Held_pairs_truths_14 T) (hr.mono (by decide)) (qv 0)) (qa_cons (qe_mt0 (mt_Held_pairs_truths_14 T) (hr.mono (by decide)) (qv 1)) (qa_nil))))) (qs_nil)))
/-! Held.__or__ -/
theorem mt_HeldD_orD_pairs_16 {X : Cx} (T : TX X.prog X.K X.mg) : Mths X 4 "pairs" [("Held", F_Held_pairs)] := by
  intro c F h
  have h := memLk h
  simp only [List.mem_cons, List.not_mem_nil, or_false, Prod.mk.injEq] at h
  rcases h with ⟨rfl, rfl⟩
  · exact ⟨T.cl "Held" (by decide +kernel), _, T.meth "Held" "pairs" (by decide +kernel), (w_Held_pairs T).mono (by decide)⟩
abbrev N_HeldD_orD : List Str := ["self", "other", "mine", "yours"]
theorem sc_HeldD_orD : FnScope N_HeldD_orD ["self", "other"] (defScope s_HeldD_orD) := ⟨rfl, rfl, rfl, by decide +kernel, rfl, by decide +kernel, by decide +kernel⟩
noncomputable def F_HeldD_orD : Fn := dfn 2 4 (sSeq (sRet (cal F_held_of (aCons (lcE (.tp [2, 3]) (iSeq (mtO [("Held", F_Held_pairs)] "pairs" (v 0) (aCons (v 1) (aNil)))) (tYs) (orE (v 2) (v 3))) (aNil)))) (sNil))
theorem w_HeldD_orD (T : TX P K mg) : FnF P w K mg base 6 (mO K "Held" "__or__") F_HeldD_orD := by
  obtain ⟨fd, F⟩ := T.says.def_ 23
  exact okF (j := 5) (st := s_HeldD_orD) F sc_HeldD_orD rfl rfl (fun _ _ _ _ _ _ us hl => match us, hl with | [_, _], _ => rfl) (fun cdv A outer s H E hr => qs_cons (qs_ret (qe_call (w_held_of T) (hr.mono (by decide)) (T.glo "held_of" (by decide +kernel)) (kp_held_of T) (qa_cons (qe_lc (own := [("mine", 2), ("yours", 3)]) (.tp [2, 3]) rfl rfl sc_HeldD_orD.nd (qi_seq (qe_mt (mt_HeldD_orD_pairs_16 T) (hr.mono (by decide)) (qv 0) (qa_cons (qv 1) (qa_nil)))) (blkOk_by (N := N_HeldD_orD) (sc := defScope s_HeldD_orD) (by decide +kernel)) (fun _ _ _ _ _ => qg_tup rfl (qgs_cons 2 (qgs_cons 3 (qgs_nil) sc_HeldD_orD.nd) sc_HeldD_orD.nd) rfl) (fun _ _ _ _ _ => pts_yes) (fun _ _ _ _ _ => qe_or (qv 2) (qe_one (qv 3)))) (qa_nil)))) (qs_nil))
/-! _law_held -/
theorem bi_HeldDorD {X : Cx} (T : TX X.prog X.K X.mg) : Bins X 6 .BitOr "Held" F_HeldD_orD := ⟨T.sf "Held" (by decide +kernel), ⟨_, Own.of (T.meth "Held" "__or__" (by decide +kernel)), w_HeldD_orD T⟩, ⟨none, T.nf "Held" "__ror__" (by decide +kernel), .inl rfl⟩, ⟨_, T.ty "int" "__or__" "int.__or__" (by decide +kernel)⟩, ⟨_, T.ty "int" "__ror__" "int.__ror__" (by decide +kernel)⟩, T.sb "int" "Held" (by decide +kernel)⟩
abbrev N_law_held : List Str := ["_law_told", "_law_found", "_law_n"]
theorem sc_law_held : FnScope N_law_held ["_law_told"] (defScope s_law_held) := ⟨rfl, rfl, rfl, by decide +kernel, rfl, by decide +kernel, by decide +kernel⟩
noncomputable def F_law_held : Fn := dfn 1 3 (sSeq (sSet 1 (smE "Held" F_Held_none (k (.cls "Held")) aNil)) (sSeq (sFor (.nm 2) (iSeq (bin ixG (v 0) (k (.int 0)))) (sSeq (sSet 1 (bin (binO "Held" F_HeldD_orD (noG2)) (v 1) (cal (mkF "Held" F_HeldD_initD) (aCons (v 2) (aNil))))) (sNil))) (sSeq (sRet (ifE (tru (bin ixG (v 0) (k (.int 1)))) (bin (binO "Held" F_HeldD_orD (noG2)) (v 1) (smE "Held" F_Held_onward (k (.cls "Held")) (aCons (k (.int 4)) (aNil)))) (v 1))) (sNil))))
theorem w_law_held (T : TX P K mg) : FnFG P w K mg base 7 (He.ga K "_law_held") F_law_held := by
  obtain ⟨fd, F⟩ := T.says.def_ 24
  exact okFG (j := 6) (st := s_law_held) F sc_law_held rfl rfl (fun _ _ _ _ _ _ us hl => match us, hl with | [_], _ => rfl) (fun cdv A outer s H E hgd hr => qs_cons (qs_set 1 (qe_sm0 (T.rd "Held" (by decide +kernel)) (T.sm "Held" "none" (by decide +kernel)) (w_Held_none T) (hr.mono (by decide)) (qg_cls (T.glo "Held" (by decide +kernel)))) sc_law_held.nd) (qs_cons (qs_for (passes_of rfl) rfl (qi_seq (qe_ix (qv 0) (qk_int))) (qg_name 2 sc_law_held.nd) (qs_cons (qs_set 1 (qe_bin (of_binO (bi_HeldDorD T) (hr.mono (by decide)) (of_no)) (qv 1) (qe_mk mk_frozen (T.mkr "Held" (by decide +kernel)) (w_HeldD_initD T) (hr.mono (by decide)) (T.glo "Held" (by decide +kernel)) (qa_cons (qv 2) (qa_nil)))) sc_law_held.nd) (qs_nil))) (qs_cons (qs_ret (qe_if (qt_tru (qe_ix (qv 0) (qk_int))) (qe_bin (of_binO (bi_HeldDorD T) (hr.mono (by decide)) (of_no)) (qv 1) (qe_sm (T.rd "Held" (by decide +kernel)) (T.sm "Held" "onward" (by decide +kernel)) (w_Held_onward T) (hr.mono (by decide)) (qg_cls (T.glo "Held" (by decide +kernel))) (qa_cons (qk_int) (qa_nil)))) (qv 1))) (qs_nil))))
/-! _law_made -/
abbrev N_law_made : List Str := ["_law_told", "_law_word", "_law_place", "_law_group"]
theorem sc_law_made : FnScope N_law_made ["_law_told"] (defScope s_law_made) := ⟨rfl, rfl, rfl, by decide +kernel, rfl, by decide +kernel, by decide +kernel⟩
noncomputable def F_law_made : Fn := dfn 1 4 (sSeq (sPar3 1 2 3 (aCons (bin ixG (v 0) (k (.int 0))) (aCons (bin ixG (v 0) (k (.int 1))) (aCons (cal F_law_held (aCons (bin ixG (v 0) (k (.int 2))) (aNil))) (aNil))))) (sSeq (sIf (tst (bin (eqG false) (v 1) (k (.str "quiet")))) (sSeq (sRet (cal (mkF "Quiet" F_EndD_initD) (aCons (v 2) (aCons (v 3) (aNil))))) (sNil)) (sNil)) (sSeq (sIf (tst (bin (eqG false) (v 1) (k (.str "again")))) (sSeq (sRet (cal (mkF "Again" F_EndD_initD) (aCons (v 2) (aCons (v 3) (aNil))))) (sNil)) (sNil)) (sSeq (sIf (tst (bin (eqG false) (v 1) (k (.str "take")))) (sSeq (sRet (cal (mkF "Take" F_EndD_initD) (aCons (v 2) (aCons (v 3) (aNil))))) (sNil)) (sNil)) (sSeq (sRet (ifE (tst (bin (eqG false) (v 1) (k (.str "across")))) (cal (mkF "Across" F_AcrossD_initD) (aCons (v 2) (aCons (v 3) (aCons (bin ixG (v 0) (k (.int 3))) (aNil))))) (cal (mkF "TakeAgain" F_EndD_initD) (aCons (v 2) (aCons (v 3) (aNil)))))) (sNil))))))
theorem w_law_made (T : TX P K mg) : FnFG P w K mg base 8 (He.ga K "_law_made") F_law_made := by
  obtain ⟨fd, F⟩ := T.says.def_ 25
  exact okFG (j := 7) (st := s_law_made) F sc_law_made rfl rfl (fun _ _ _ _ _ _ us hl => match us, hl with | [_], _ => rfl) (fun cdv A outer s H E hgd hr => qs_cons (qs_par3 1 2 3 rfl (qa_cons (qe_ix (qv 0) (qk_int)) (qa_cons (qe_ix (qv 0) (qk_int)) (qa_cons (qe_callG (w_law_held T) hgd (hr.mono (by decide)) (T.glo "_law_held" (by decide +kernel)) (kp_law_held T) (qa_cons (qe_ix (qv 0) (qk_int)) (qa_nil))) (qa_nil)))) sc_law_made.nd) (qs_cons (qs_if (qt_cmp (of_eq hr.units) (qv 1) (qk_str)) (qs_cons (qs_ret (qe_mk mk_frozen (T.mkr "Quiet" (by decide +kernel)) (ihF (T.ih "Quiet" "__init__" "End" (by decide +kernel)) (w_EndD_initD T)) (hr.mono (by decide)) (T.glo "Quiet" (by decide +kernel)) (qa_cons (qv 2) (qa_cons (qv 3) (qa_nil))))) (qs_nil)) (qs_nil)) (qs_cons (qs_if (qt_cmp (of_eq hr.units) (qv 1) (qk_str)) (qs_cons (qs_ret (qe_mk mk_frozen (T.mkr "Again" (by decide +kernel)) (ihF (T.ih "Again" "__init__" "End" (by decide +kernel)) (w_EndD_initD T)) (hr.mono (by decide)) (T.glo "Again" (by decide +kernel)) (qa_cons (qv 2) (qa_cons (qv 3) (qa_nil))))) (qs_nil)) (qs_nil)) (qs_cons (qs_if (qt_cmp (of_eq hr.units) (qv 1) (qk_str)) (qs_cons (qs_ret (qe_mk mk_frozen (T.mkr "Take" (by decide +kernel)) (ihF (T.ih "Take" "__init__" "End" (by decide +kernel)) (w_EndD_initD T)) (hr.mono (by decide)) (T.glo "Take" (by decide +kernel)) (qa_cons (qv 2) (qa_cons (qv 3) (qa_nil))))) (qs_nil)) (qs_nil)) (qs_cons (qs_ret (qe_if (qt_cmp (of_eq hr.units) (qv 1) (qk_str)) (qe_mk mk_frozen (T.mkr "Across" (by decide +kernel)) (w_AcrossD_initD T) (hr.mono (by decide)) (T.glo "Across" (by decide +kernel)) (qa_cons (qv 2) (qa_cons (qv 3) (qa_cons (qe_ix (qv 0) (qk_int)) (qa_nil))))) (qe_mk mk_frozen (T.mkr "TakeAgain" (by decide +kernel)) (ihF (T.ih "TakeAgain" "__init__" "End" (by decide +kernel)) (w_EndD_initD T)) (hr.mono (by decide)) (T.glo "TakeAgain" (by decide +kernel)) (qa_cons (qv 2) (qa_cons (qv 3) (qa_nil)))))) (qs_nil))))))
/-! Held.__eq__ -/
abbrev N_HeldD_eqD : List Str := ["self", "other"]
theorem sc_HeldD_eqD : FnScope N_HeldD_eqD ["self", "other"] (defScope s_HeldD_eqD) := ⟨rfl, rfl, rfl, by decide +kernel, rfl, by decide +kernel, by decide +kernel⟩
noncomputable def F_HeldD_eqD : Fn := dfn 2 2 (sSeq (sRet (anE (cal (isiF (isiC [("Held", true), ("Ring", false), ("End", false), ("Quiet", false), ("Again", false), ("Take", false), ("Across", false), ("TakeAgain", false)]) (isCl "Held")) (aCons (v 1) (aCons (k (.cls "Held")) aNil))) (anE (bin (eqG false) (una (fldG ["Held"] "listed") (v 0)) (una (fldG ["Held"] "listed") (v 1))) (bin (eqG false) (una (fldG ["Held"] "is_endless") (v 0)) (una (fldG ["Held"] "is_endless") (v 1)))))) (sNil))
theorem w_HeldD_eqD (T : TX P K mg) : FnF P w K mg base 1 (mO K "Held" "__eq__") F_HeldD_eqD := by
  obtain ⟨fd, F⟩ := T.says.def_ 26
  exact okF (j := 0) (st := s_HeldD_eqD) F sc_HeldD_eqD rfl rfl (fun _ _ _ _ _ _ us hl => match us, hl with | [_, _], _ => rfl) (fun cdv A outer s H E hr => qs_cons (qs_ret (qe_and (qe_blt (cc_Held T) (T.free "isinstance" (by decide +kernel)) (qa_cons (qv 1) (qa_cons (qg_cls (T.glo "Held" (by decide +kernel))) qa_nil))) (qe_and (qe_cmp (of_eq hr.units) (qe_fld (fl_listed T) (qv 0)) (qe_fld (fl_listed T) (qv 1))) (qe_one (qe_cmp (of_eq hr.units) (qe_fld (fl_is_endless T) (qv 0)) (qe_fld (fl_is_endless T) (qv 1))))))) (qs_nil))
/-! _law_kind_right -/
theorem cc_End {X : Cx} (T : TX X.prog X.K X.mg) : CallF X (.builtin "isinstance") (isiF (isiC [("Held", false), ("Ring", false), ("End", true), ("Quiet", true), ("Again", true), ("Take", true), ("Across", true), ("TakeAgain", true)]) (isCl "End")) := by
  refine cf_isiC (fun n h => kt_six T "End" (by decide +kernel) n h) fun c b h => ?_
  have h := memLk h
  simp only [List.mem_cons, List.not_mem_nil, or_false, Prod.mk.injEq] at h
  rcases h with ⟨rfl, rfl⟩ | ⟨rfl, rfl⟩ | ⟨rfl, rfl⟩ | ⟨rfl, rfl⟩ | ⟨rfl, rfl⟩ | ⟨rfl, rfl⟩ | ⟨rfl, rfl⟩ | ⟨rfl, rfl⟩
  · exact ⟨cf_ T "Held" (by decide +kernel), T.ko "Held" "End" false (by decide +kernel)⟩
  · exact ⟨cf_ T "Ring" (by decide +kernel), T.ko "Ring" "End" false (by decide +kernel)⟩
  · exact ⟨cf_ T "End" (by decide +kernel), T.ko "End" "End" true (by decide +kernel)⟩
  · exact ⟨cf_ T "Quiet" (by decide +kernel), T.ko "Quiet" "End" true (by decide +kernel)⟩
  · exact ⟨cf_ T "Again" (by decide +kernel), T.ko "Again" "End" true (by decide +kernel)⟩
  · exact ⟨cf_ T "Take" (by decide +kernel), T.ko "Take" "End" true (by decide +kernel)⟩
  · exact ⟨cf_ T "Across" (by decide +kernel), T.ko "Across" "End" true (by decide +kernel)⟩
  · exact ⟨cf_ T "TakeAgain" (by decide +kernel), T.ko "TakeAgain" "End" true (by decide +kernel)⟩
theorem cc_TakeAgain {X : Cx} (T : TX X.prog X.K X.mg) : CallF X (.builtin "isinstance") (isiF (isiC [("Held", false), ("Ring", false), ("End", false), ("Quiet", false), ("Again", false), ("Take", false), ("Across", false), ("TakeAgain", true)]) (isCl "TakeAgain")) := by
  refine cf_isiC (fun n h => kt_six T "TakeAgain" (by decide +kernel) n h) fun c b h => ?_
  have h := memLk h
  simp only [List.mem_cons, List.not_mem_nil, or_false, Prod.mk.injEq] at h
  rcases h with ⟨rfl, rfl⟩ | ⟨rfl, rfl⟩ | ⟨rfl, rfl⟩ | ⟨rfl, rfl⟩ | ⟨rfl, rfl⟩ | ⟨rfl, rfl⟩ | ⟨rfl, rfl⟩ | ⟨rfl, rfl⟩
  · exact ⟨cf_ T "Held" (by decide +kernel), T.ko "Held" "TakeAgain" false (by decide +kernel)⟩
  · exact ⟨cf_ T "Ring" (by decide +kernel), T.ko "Ring" "TakeAgain" false (by decide +kernel)⟩
  · exact ⟨cf_ T "End" (by decide +kernel), T.ko "End" "TakeAgain" false (by decide +kernel)⟩
  · exact ⟨cf_ T "Quiet" (by decide +kernel), T.ko "Quiet" "TakeAgain" false (by decide +kernel)⟩
  · exact ⟨cf_ T "Again" (by decide +kernel), T.ko "Again" "TakeAgain" false (by decide +kernel)⟩
  · exact ⟨cf_ T "Take" (by decide +kernel), T.ko "Take" "TakeAgain" false (by decide +kernel)⟩
  · exact ⟨cf_ T "Across" (by decide +kernel), T.ko "Across" "TakeAgain" false (by decide +kernel)⟩
  · exact ⟨cf_ T "TakeAgain" (by decide +kernel), T.ko "TakeAgain" "TakeAgain" true (by decide +kernel)⟩
theorem cc_Across {X : Cx} (T : TX X.prog X.K X.mg) : CallF X (.builtin "isinstance") (isiF (isiC [("Held", false), ("Ring", false), ("End", false), ("Quiet", false), ("Again", false), ("Take", false), ("Across", true), ("TakeAgain", false)]) (isCl "Across")) := by
  refine cf_isiC (fun n h => kt_six T "Across" (by decide +kernel) n h) fun c b h => ?_
  have h := memLk h
  simp only [List.mem_cons, List.not_mem_nil, or_false, Prod.mk.injEq] at h
  rcases h with ⟨rfl, rfl⟩ | ⟨rfl, rfl⟩ | ⟨rfl, rfl⟩ | ⟨rfl, rfl⟩ | ⟨rfl, rfl⟩ | ⟨rfl, rfl⟩ | ⟨rfl, rfl⟩ | ⟨rfl, rfl⟩
  · exact ⟨cf_ T "Held" (by decide +kernel), T.ko "Held" "Across" false (by decide +kernel)⟩
  · exact ⟨cf_ T "Ring" (by decide +kernel), T.ko "Ring" "Across" false (by decide +kernel)⟩
  · exact ⟨cf_ T "End" (by decide +kernel), T.ko "End" "Across" false (by decide +kernel)⟩
  · exact ⟨cf_ T "Quiet" (by decide +kernel), T.ko "Quiet" "Across" false (by decide +kernel)⟩
  · exact ⟨cf_ T "Again" (by decide +kernel), T.ko "Again" "Across" false (by decide +kernel)⟩
  · exact ⟨cf_ T "Take" (by decide +kernel), T.ko "Take" "Across" false (by decide +kernel)⟩
  · exact ⟨cf_ T "Across" (by decide +kernel), T.ko "Across" "Across" true (by decide +kernel)⟩
  · exact ⟨cf_ T "TakeAgain" (by decide +kernel), T.ko "TakeAgain" "Across" false (by decide +kernel)⟩
theorem cc_Take {X : Cx} (T : TX X.prog X.K X.mg) : CallF X (.builtin "isinstance") (isiF (isiC [("Held", false), ("Ring", false), ("End", false), ("Quiet", false), ("Again", false), ("Take", true), ("Across", true), ("TakeAgain", true)]) (isCl "Take")) := by
  refine cf_isiC (fun n h => kt_six T "Take" (by decide +kernel) n h) fun c b h => ?_
  have h := memLk h
  simp only [List.mem_cons, List.not_mem_nil, or_false, Prod.mk.injEq] at h
  rcases h with ⟨rfl, rfl⟩ | ⟨rfl, rfl⟩ | ⟨rfl, rfl⟩ | ⟨rfl, rfl⟩ | ⟨rfl, rfl⟩ | ⟨rfl, rfl⟩ | ⟨rfl, rfl⟩ | ⟨rfl, rfl⟩
  · exact ⟨cf_ T "Held" (by decide +kernel), T.ko "Held" "Take" false (by decide +kernel)⟩
  · exact ⟨cf_ T "Ring" (by decide +kernel), T.ko "Ring" "Take" false (by decide +kernel)⟩
  · exact ⟨cf_ T "End" (by decide +kernel), T.ko "End" "Take" false (by decide +kernel)⟩
  · exact ⟨cf_ T "Quiet" (by decide +kernel), T.ko "Quiet" "Take" false (by decide +kernel)⟩
  · exact ⟨cf_ T "Again" (by decide +kernel), T.ko "Again" "Take" false (by decide +kernel)⟩
  · exact ⟨cf_ T "Take" (by decide +kernel), T.ko "Take" "Take" true (by decide +kernel)⟩
  · exact ⟨cf_ T "Across" (by decide +kernel), T.ko "Across" "Take" true (by decide +kernel)⟩
  · exact ⟨cf_ T "TakeAgain" (by decide +kernel), T.ko "TakeAgain" "Take" true (by decide +kernel)⟩
theorem cc_Again {X : Cx} (T : TX X.prog X.K X.mg) : CallF X (.builtin "isinstance") (isiF (isiC [("Held", false), ("Ring", false), ("End", false), ("Quiet", false), ("Again", true), ("Take", false), ("Across", false), ("TakeAgain", true)]) (isCl "Again")) := by
  refine cf_isiC (fun n h => kt_six T "Again" (by decide +kernel) n h) fun c b h => ?_
  have h := memLk h
  simp only [List.mem_cons, List.not_mem_nil, or_false, Prod.mk.injEq] at h
  rcases h with ⟨rfl, rfl⟩ | ⟨rfl, rfl⟩ | ⟨rfl, rfl⟩ | ⟨rfl, rfl⟩ | ⟨rfl, rfl⟩ | ⟨rfl, rfl⟩ | ⟨rfl, rfl⟩ | ⟨rfl, rfl⟩
  · exact ⟨cf_ T "Held" (by decide +kernel), T.ko "Held" "Again" false (by decide +kernel)⟩
  · exact ⟨cf_ T "Ring" (by decide +kernel), T.ko "Ring" "Again" false (by decide +kernel)⟩
  · exact ⟨cf_ T "End" (by decide +kernel), T.ko "End" "Again" false (by decide +kernel)⟩
  · exact ⟨cf_ T "Quiet" (by decide +kernel), T.ko "Quiet" "Again" false (by decide +kernel)⟩
  · exact ⟨cf_ T "Again" (by decide +kernel), T.ko "Again" "Again" true (by decide +kernel)⟩
  · exact ⟨cf_ T "Take" (by decide +kernel), T.ko "Take" "Again" false (by decide +kernel)⟩
  · exact ⟨cf_ T "Across" (by decide +kernel), T.ko "Across" "Again" false (by decide +kernel)⟩
  · exact ⟨cf_ T "TakeAgain" (by decide +kernel), T.ko "TakeAgain" "Again" true (by decide +kernel)⟩
theorem cc_Quiet {X : Cx} (T : TX X.prog X.K X.mg) : CallF X (.builtin "isinstance") (isiF (isiC [("Held", false), ("Ring", false), ("End", false), ("Quiet", true), ("Again", false), ("Take", false), ("Across", false), ("TakeAgain", false)]) (isCl "Quiet")) := by
  refine cf_isiC (fun n h => kt_six T "Quiet" (by decide +kernel) n h) fun c b h => ?_
  have h := memLk h
  simp only [List.mem_cons, List.not_mem_nil, or_false, Prod.mk.injEq] at h
  rcases h with ⟨rfl, rfl⟩ | ⟨rfl, rfl⟩ | ⟨rfl, rfl⟩ | ⟨rfl, rfl⟩ | ⟨rfl, rfl⟩ | ⟨rfl, rfl⟩ | ⟨rfl, rfl⟩ | ⟨rfl, rfl⟩
  · exact ⟨cf_ T "Held" (by decide +kernel), T.ko "Held" "Quiet" false (by decide +kernel)⟩
  · exact ⟨cf_ T "Ring" (by decide +kernel), T.ko "Ring" "Quiet" false (by decide +kernel)⟩
  · exact ⟨cf_ T "End" (by decide +kernel), T.ko "End" "Quiet" false (by decide +kernel)⟩
  · exact ⟨cf_ T "Quiet" (by decide +kernel), T.ko "Quiet" "Quiet" true (by decide +kernel)⟩
  · exact ⟨cf_ T "Again" (by decide +kernel), T.ko "Again" "Quiet" false (by decide +kernel)⟩
  · exact ⟨cf_ T "Take" (by decide +kernel), T.ko "Take" "Quiet" false (by decide +kernel)⟩
  · exact ⟨cf_ T "Across" (by decide +kernel), T.ko "Across" "Quiet" false (by decide +kernel)⟩
  · exact ⟨cf_ T "TakeAgain" (by decide +kernel), T.ko "TakeAgain" "Quiet" false (by decide +kernel)⟩
theorem ic_is_again {X : Cx} (T : TX X.prog X.K X.mg) : ICs X "is_again" [("End", .bl false), ("Quiet", .bl false), ("Again", .bl true), ("Take", .bl false), ("Across", .bl false), ("TakeAgain", .bl true)] := by
  intro c d h
  have h := memLk h
  simp only [List.mem_cons, List.not_mem_nil, or_false, Prod.mk.injEq] at h
  rcases h with ⟨rfl, rfl⟩ | ⟨rfl, rfl⟩ | ⟨rfl, rfl⟩ | ⟨rfl, rfl⟩ | ⟨rfl, rfl⟩ | ⟨rfl, rfl⟩
  · exact ⟨T.cl "End" (by decide +kernel), _, (T.ic "End" "is_again" (.bl false) (by decide +kernel)).choose, (T.ic "End" "is_again" (.bl false) (by decide +kernel)).choose_spec, fun _ => cv_rp (c := .bl false)⟩
  · exact ⟨T.cl "Quiet" (by decide +kernel), _, (T.ic "Quiet" "is_again" (.bl false) (by decide +kernel)).choose, (T.ic "Quiet" "is_again" (.bl false) (by decide +kernel)).choose_spec, fun _ => cv_rp (c := .bl false)⟩
  · exact ⟨T.cl "Again" (by decide +kernel), _, (T.ic "Again" "is_again" (.bl true) (by decide +kernel)).choose, (T.ic "Again" "is_again" (.bl true) (by decide +kernel)).choose_spec, fun _ => cv_rp (c := .bl true)⟩
  · exact ⟨T.cl "Take" (by decide +kernel), _, (T.ic "Take" "is_again" (.bl false) (by decide +kernel)).choose, (T.ic "Take" "is_again" (.bl false) (by decide +kernel)).choose_spec, fun _ => cv_rp (c := .bl false)⟩
  · exact ⟨T.cl "Across" (by decide +kernel), _, (T.ic "Across" "is_again" (.bl false) (by decide +kernel)).choose, (T.ic "Across" "is_again" (.bl false) (by decide +kernel)).choose_spec, fun _ => cv_rp (c := .bl false)⟩
  · exact ⟨T.cl "TakeAgain" (by decide +kernel), _, (T.ic "TakeAgain" "is_again" (.bl true) (by decide +kernel)).choose, (T.ic "TakeAgain" "is_again" (.bl true) (by decide +kernel)).choose_spec, fun _ => cv_rp (c := .bl true)⟩
theorem ic_is_take {X : Cx} (T : TX X.prog X.K X.mg) : ICs X "is_take" [("End", .bl false), ("Quiet", .bl false), ("Again", .bl false), ("Take", .bl true), ("Across", .bl true), ("TakeAgain", .bl true)] := by
  intro c d h
  have h := memLk h
  simp only [List.mem_cons, List.not_mem_nil, or_false, Prod.mk.injEq] at h
  rcases h with ⟨rfl, rfl⟩ | ⟨rfl, rfl⟩ | ⟨rfl, rfl⟩ | ⟨rfl, rfl⟩ | ⟨rfl, rfl⟩ | ⟨rfl, rfl⟩
  · exact ⟨T.cl "End" (by decide +kernel), _, (T.ic "End" "is_take" (.bl false) (by decide +kernel)).choose, (T.ic "End" "is_take" (.bl false) (by decide +kernel)).choose_spec, fun _ => cv_rp (c := .bl false)⟩
  · exact ⟨T.cl "Quiet" (by decide +kernel), _, (T.ic "Quiet" "is_take" (.bl false) (by decide +kernel)).choose, (T.ic "Quiet" "is_take" (.bl false) (by decide +kernel)).choose_spec, fun _ => cv_rp (c := .bl false)⟩
  · exact ⟨T.cl "Again" (by decide +kernel), _, (T.ic "Again" "is_take" (.bl false) (by decide +kernel)).choose, (T.ic "Again" "is_take" (.bl false) (by decide +kernel)).choose_spec, fun _ => cv_rp (c := .bl false)⟩
  · exact ⟨T.cl "Take" (by decide +kernel), _, (T.ic "Take" "is_take" (.bl true) (by decide +kernel)).choose, (T.ic "Take" "is_take" (.bl true) (by decide +kernel)).choose_spec, fun _ => cv_rp (c := .bl true)⟩
  · exact ⟨T.cl "Across" (by decide +kernel), _, (T.ic "Across" "is_take" (.bl true) (by decide +kernel)).choose, (T.ic "Across" "is_take" (.bl true) (by decide +kernel)).choose_spec, fun _ => cv_rp (c := .bl true)⟩
  · exact ⟨T.cl "TakeAgain" (by decide +kernel), _, (T.ic "TakeAgain" "is_take" (.bl true) (by decide +kernel)).choose, (T.ic "TakeAgain" "is_take" (.bl true) (by decide +kernel)).choose_spec, fun _ => cv_rp (c := .bl true)⟩
theorem cm_law_kind_right_eq_26 {X : Cx} (T : TX X.prog X.K X.mg) : Cmps X 1 "__eq__" [("Held", F_HeldD_eqD)] ["Held", "Ring", "End", "Quiet", "Again", "Take", "Across", "TakeAgain"] := by
  intro c F h
  have h := memLk h
  simp only [List.mem_cons, List.not_mem_nil, or_false, Prod.mk.injEq] at h
  rcases h with ⟨rfl, rfl⟩
  · refine ⟨fun t h6 ho => ?_, _, Own.of (T.meth "Held" "__eq__" (by decide +kernel)), (w_HeldD_eqD T).mono (by decide)⟩
    match t, h6, ho with
    | .b n, h6, _ => exact nf_six T "Held" (by decide +kernel) n (h6 n rfl)
    | .c n, _, ho =>
      have ho := List.contains_iff_mem.mp ho
      simp only [List.mem_cons, List.not_mem_nil, or_false] at ho
      rcases ho with rfl | rfl | rfl | rfl | rfl | rfl | rfl | rfl
      · simp [PySem.W.notFirst, tyV']
      · exact nf_cls T "Ring" "Held" (by decide +kernel)
      · exact nf_cls T "End" "Held" (by decide +kernel)
      · exact nf_cls T "Quiet" "Held" (by decide +kernel)
      · exact nf_cls T "Again" "Held" (by decide +kernel)
      · exact nf_cls T "Take" "Held" (by decide +kernel)
      · exact nf_cls T "Across" "Held" (by decide +kernel)
      · exact nf_cls T "TakeAgain" "Held" (by decide +kernel)
theorem hn_law_kind_right_27 {X : Cx} (T : TX X.prog X.K X.mg) : ∀ c F, List.lookup c ([("Held", F_HeldD_eqD)] : List (String × Fn)) = some F → OwnNe X.K (gaS X.K c) := by
  intro c F h
  have h := memLk h
  simp only [List.mem_cons, List.not_mem_nil, or_false, Prod.mk.injEq] at h
  rcases h with ⟨rfl, rfl⟩
  · exact T.ne "Held" (by decide +kernel)
theorem ic_WORD {X : Cx} (T : TX X.prog X.K X.mg) : ICs X "WORD" [("End", .str "end"), ("Quiet", .str "quiet"), ("Again", .str "again"), ("Take", .str "take"), ("Across", .str "across"), ("TakeAgain", .str "takeagain")] := by
  intro c d h
  have h := memLk h
  simp only [List.mem_cons, List.not_mem_nil, or_false, Prod.mk.injEq] at h
  rcases h with ⟨rfl, rfl⟩ | ⟨rfl, rfl⟩ | ⟨rfl, rfl⟩ | ⟨rfl, rfl⟩ | ⟨rfl, rfl⟩ | ⟨rfl, rfl⟩
  · exact ⟨T.cl "End" (by decide +kernel), _, (T.ic "End" "WORD" (.str "end") (by decide +kernel)).choose, (T.ic "End" "WORD" (.str "end") (by decide +kernel)).choose_spec, fun _ => cv_rp (c := .str "end")⟩
  · exact ⟨T.cl "Quiet" (by decide +kernel), _, (T.ic "Quiet" "WORD" (.str "quiet") (by decide +kernel)).choose, (T.ic "Quiet" "WORD" (.str "quiet") (by decide +kernel)).choose_spec, fun _ => cv_rp (c := .str "quiet")⟩
  · exact ⟨T.cl "Again" (by decide +kernel), _, (T.ic "Again" "WORD" (.str "again") (by decide +kernel)).choose, (T.ic "Again" "WORD" (.str "again") (by decide +kernel)).choose_spec, fun _ => cv_rp (c := .str "again")⟩
  · exact ⟨T.cl "Take" (by decide +kernel), _, (T.ic "Take" "WORD" (.str "take") (by decide +kernel)).choose, (T.ic "Take" "WORD" (.str "take") (by decide +kernel)).choose_spec, fun _ => cv_rp (c := .str "take")⟩
  · exact ⟨T.cl "Across" (by decide +kernel), _, (T.ic "Across" "WORD" (.str "across") (by decide +kernel)).choose, (T.ic "Across" "WORD" (.str "across") (by decide +kernel)).choose_spec, fun _ => cv_rp (c := .str "across")⟩
  · exact ⟨T.cl "TakeAgain" (by decide +kernel), _, (T.ic "TakeAgain" "WORD" (.str "takeagain") (by decide +kernel)).choose, (T.ic "TakeAgain" "WORD" (.str "takeagain") (by decide +kernel)).choose_spec, fun _ => cv_rp (c := .str "takeagain")⟩
abbrev N_law_kind_right : List Str := ["_law_told", "_law_made_here", "_law_word", "_law_is_take", "_law_is_again", "_law_kinds"]
theorem sc_law_kind_right : FnScope N_law_kind_right ["_law_told", "_law_made_here"] (defScope s_law_kind_right) := ⟨rfl, rfl, rfl, by decide +kernel, rfl, by decide +kernel, by decide +kernel⟩
noncomputable def F_law_kind_right : Fn := dfn 2 6 (sSeq (sSet 2 (bin ixG (v 0) (k (.int 0)))) (sSeq (sIf (tst (bin (neO [("Held", F_HeldD_eqD)] ["Held", "Ring", "End", "Quiet", "Again", "Take", "Across", "TakeAgain"] (eqG true)) (una (fldG ["Across", "Again", "End", "Quiet", "Take", "TakeAgain"] "held") (v 1)) (cal F_law_held (aCons (bin ixG (v 0) (k (.int 2))) (aNil))))) (sSeq (sRet (k (.bl false))) (sNil)) (sNil)) (sSeq (sIf (tst (bin (neO [("Held", F_HeldD_eqD)] ["Held", "Ring", "End", "Quiet", "Again", "Take", "Across", "TakeAgain"] (eqG true)) (cal (reprI reprB) (aCons (lstE (aCons (una (icG [("End", .str "end"), ("Quiet", .str "quiet"), ("Again", .str "again"), ("Take", .str "take"), ("Across", .str "across"), ("TakeAgain", .str "takeagain")] "WORD") (v 1)) (aCons (una (fldG ["Across", "Again", "End", "Quiet", "Take", "TakeAgain"] "where") (v 1)) (aCons (una (fldG ["Across", "Again", "End", "Quiet", "Take", "TakeAgain"] "full") (v 1)) (aNil))))) (aNil))) (cal (reprI reprB) (aCons (lstE (aCons (v 2) (aCons (bin ixG (v 0) (k (.int 1))) (aCons (bin ixG (v 0) (k (.int 3))) (aNil))))) (aNil))))) (sSeq (sRet (k (.bl false))) (sNil)) (sNil)) (sSeq (sPar 3 4 (aCons (bin (inG false) (v 2) (tupE (aCons (k (.str "take")) (aCons (k (.str "across")) (aCons (k (.str "takeagain")) (aNil)))))) (aCons (bin (inG false) (v 2) (tupE (aCons (k (.str "again")) (aCons (k (.str "takeagain")) (aNil))))) (aNil)))) (sSeq (sIf (tst (bin (neO [("Held", F_HeldD_eqD)] ["Held", "Ring", "End", "Quiet", "Again", "Take", "Across", "TakeAgain"] (eqG true)) (cal (reprI reprB) (aCons (lstE (aCons (una (icG [("End", .bl false), ("Quiet", .bl false), ("Again", .bl false), ("Take", .bl true), ("Across", .bl true), ("TakeAgain", .bl true)] "is_take") (v 1)) (aCons (una (icG [("End", .bl false), ("Quiet", .bl false), ("Again", .bl true), ("Take", .bl false), ("Across", .bl false), ("TakeAgain", .bl true)] "is_again") (v 1)) (aNil)))) (aNil))) (cal (reprI reprB) (aCons (lstE (aCons (v 3) (aCons (v 4) (aNil)))) (aNil))))) (sSeq (sRet (k (.bl false))) (sNil)) (sNil)) (sSeq (sSet 5 (lstE (aCons (cal (isiF (isiC [("Held", false), ("Ring", false), ("End", false), ("Quiet", true), ("Again", false), ("Take", false), ("Across", false), ("TakeAgain", false)]) (isCl "Quiet")) (aCons (v 1) (aCons (k (.cls "Quiet")) aNil))) (aCons (cal (isiF (isiC [("Held", false), ("Ring", false), ("End", false), ("Quiet", false), ("Again", true), ("Take", false), ("Across", false), ("TakeAgain", true)]) (isCl "Again")) (aCons (v 1) (aCons (k (.cls "Again")) aNil))) (aCons (cal (isiF (isiC [("Held", false), ("Ring", false), ("End", false), ("Quiet", false), ("Again", false), ("Take", true), ("Across", true), ("TakeAgain", true)]) (isCl "Take")) (aCons (v 1) (aCons (k (.cls "Take")) aNil))) (aNil)))))) (sSeq (sSet 5 (bin (addG) (v 5) (lstE (aCons (cal (isiF (isiC [("Held", false), ("Ring", false), ("End", false), ("Quiet", false), ("Again", false), ("Take", false), ("Across", true), ("TakeAgain", false)]) (isCl "Across")) (aCons (v 1) (aCons (k (.cls "Across")) aNil))) (aCons (cal (isiF (isiC [("Held", false), ("Ring", false), ("End", false), ("Quiet", false), ("Again", false), ("Take", false), ("Across", false), ("TakeAgain", true)]) (isCl "TakeAgain")) (aCons (v 1) (aCons (k (.cls "TakeAgain")) aNil))) (aCons (cal (isiF (isiC [("Held", false), ("Ring", false), ("End", true), ("Quiet", true), ("Again", true), ("Take", true), ("Across", true), ("TakeAgain", true)]) (isCl "End")) (aCons (v 1) (aCons (k (.cls "End")) aNil))) (aNil))))))) (sSeq (sRet (bin (eqG false) (v 5) (lstE (aCons (bin (eqG false) (v 2) (k (.str "quiet"))) (aCons (v 4) (aCons (v 3) (aCons (bin (eqG false) (v 2) (k (.str "across"))) (aCons (bin (eqG false) (v 2) (k (.str "takeagain"))) (aCons (k (.bl true)) (aNil)))))))))) (sNil)))))))))
theorem w_law_kind_right (T : TX P K mg) : FnFG P w K mg base 8 (He.ga K "_law_kind_right") F_law_kind_right := by
  obtain ⟨fd, F⟩ := T.says.def_ 27
  exact okFG (j := 7) (st := s_law_kind_right) F sc_law_kind_right rfl rfl (fun _ _ _ _ _ _ us hl => match us, hl with | [_, _], _ => rfl) (fun cdv A outer s H E hgd hr => qs_cons (qs_set 2 (qe_ix (qv 0) (qk_int)) sc_law_kind_right.nd) (qs_cons (qs_if (qt_cmp (of_neO (hn_law_kind_right_27 T) (cm_law_kind_right_eq_26 T) (hr.mono (by decide)) (of_ne hr.units)) (qe_fld (fl_held T) (qv 1)) (qe_callG (w_law_held T) hgd (hr.mono (by decide)) (T.glo "_law_held" (by decide +kernel)) (kp_law_held T) (qa_cons (qe_ix (qv 0) (qk_int)) (qa_nil)))) (qs_cons (qs_ret (qk_bl)) (qs_nil)) (qs_nil)) (qs_cons (qs_if (qt_cmp (of_neO (hn_law_kind_right_27 T) (cm_law_kind_right_eq_26 T) (hr.mono (by decide)) (of_ne hr.units)) (qe_blt (cf_reprI (cf_repr hgd hr.units)) (T.free "repr" (by decide +kernel)) (qa_cons (qe_lst (qa_cons (qe_ic (ic_WORD T) (qv 1)) (qa_cons (qe_fld (fl_where T) (qv 1)) (qa_cons (qe_fld (fl_full T) (qv 1)) (qa_nil))))) (qa_nil))) (qe_blt (cf_reprI (cf_repr hgd hr.units)) (T.free "repr" (by decide +kernel)) (qa_cons (qe_lst (qa_cons (qv 2) (qa_cons (qe_ix (qv 0) (qk_int)) (qa_cons (qe_ix (qv 0) (qk_int)) (qa_nil))))) (qa_nil)))) (qs_cons (qs_ret (qk_bl)) (qs_nil)) (qs_nil)) (qs_cons (qs_par 3 4 rfl (qa_cons (qe_cmp (of_in (u65 hr)) (qv 2) (qe_tup (qa_cons (qk_str) (qa_cons (qk_str) (qa_cons (qk_str) (qa_nil)))))) (qa_cons (qe_cmp (of_in (u65 hr)) (qv 2) (qe_tup (qa_cons (qk_str) (qa_cons (qk_str) (qa_nil))))) (qa_nil))) sc_law_kind_right.nd) (qs_cons (qs_if (qt_cmp (of_neO (hn_law_kind_right_27 T) (cm_law_kind_right_eq_26 T) (hr.mono (by decide)) (of_ne hr.units)) (qe_blt (cf_reprI (cf_repr hgd hr.units)) (T.free "repr" (by decide +kernel)) (qa_cons (qe_lst (qa_cons (qe_ic (ic_is_take T) (qv 1)) (qa_cons (qe_ic (ic_is_again T) (qv 1)) (qa_nil)))) (qa_nil))) (qe_blt (cf_reprI (cf_repr hgd hr.units)) (T.free "repr" (by decide +kernel)) (qa_cons (qe_lst (qa_cons (qv 3) (qa_cons (qv 4) (qa_nil)))) (qa_nil)))) (qs_cons (qs_ret (qk_bl)) (qs_nil)) (qs_nil)) (qs_cons (qs_set 5 (qe_lst (qa_cons (qe_blt (cc_Quiet T) (T.free "isinstance" (by decide +kernel)) (qa_cons (qv 1) (qa_cons (qg_cls (T.glo "Quiet" (by decide +kernel))) qa_nil))) (qa_cons (qe_blt (cc_Again T) (T.free "isinstance" (by decide +kernel)) (qa_cons (qv 1) (qa_cons (qg_cls (T.glo "Again" (by decide +kernel))) qa_nil))) (qa_cons (qe_blt (cc_Take T) (T.free "isinstance" (by decide +kernel)) (qa_cons (qv 1) (qa_cons (qg_cls (T.glo "Take" (by decide +kernel))) qa_nil))) (qa_nil))))) sc_law_kind_right.nd) (qs_cons (qs_set 5 (qe_bin (of_add) (qv 5) (qe_lst (qa_cons (qe_blt (cc_Across T) (T.free "isinstance" (by decide +kernel)) (qa_cons (qv 1) (qa_cons (qg_cls (T.glo "Across" (by decide +kernel))) qa_nil))) (qa_cons (qe_blt (cc_TakeAgain T) (T.free "isinstance" (by decide +kernel)) (qa_cons (qv 1) (qa_cons (qg_cls (T.glo "TakeAgain" (by decide +kernel))) qa_nil))) (qa_cons (qe_blt (cc_End T) (T.free "isinstance" (by decide +kernel)) (qa_cons (qv 1) (qa_cons (qg_cls (T.glo "End" (by decide +kernel))) qa_nil))) (qa_nil)))))) sc_law_kind_right.nd) (qs_cons (qs_ret (qe_cmp (of_eq hr.units) (qv 5) (qe_lst (qa_cons (qe_cmp (of_eq hr.units) (qv 2) (qk_str)) (qa_cons (qv 4) (qa_cons (qv 3) (qa_cons (qe_cmp (of_eq hr.units) (qv 2) (qk_str)) (qa_cons (qe_cmp (of_eq hr.units) (qv 2) (qk_str)) (qa_cons (qk_bl) (qa_nil)))))))))) (qs_nil)))))))))
/-! _law_taken -/
abbrev N_law_taken : List Str := ["_law_told", "_law_across", "_law_size", "_law_here", "_law_across_it"]
theorem sc_law_taken : FnScope N_law_taken ["_law_told", "_law_across", "_law_size", "_law_here"] (defScope s_law_taken) := ⟨rfl, rfl, rfl, by decide +kernel, rfl, by decide +kernel, by decide +kernel⟩
noncomputable def F_law_taken : Fn := dfn 4 5 (sSeq (sIf (tst (bin (inG false) (bin ixG (v 0) (k (.int 0))) (tupE (aCons (k (.str "quiet")) (aCons (k (.str "again")) (aNil)))))) (sSeq (sRet (tupE (aNil))) (sNil)) (sNil)) (sSeq (sSet 4 (bin (modG) (cal intB (aCons (bin (subG) (v 1) (v 3)) (aNil))) (v 2))) (sSeq (sIf (tOr (tst (bin (eqG true) (bin ixG (v 0) (k (.int 0))) (k (.str "across")))) (tst (bin (eqG false) (v 4) (v 3)))) (sSeq (sRet (tupE (aCons (v 3) (aNil)))) (sNil)) (sNil)) (sSeq (sRet (ifE (tst (bin (ltG) (v 3) (v 4))) (tupE (aCons (v 3) (aCons (v 4) (aNil)))) (tupE (aCons (v 4) (aCons (v 3) (aNil)))))) (sNil)))))
theorem w_law_taken (T : TX P K mg) : FnFG P w K mg base 1 (He.ga K "_law_taken") F_law_taken := by
  obtain ⟨fd, F⟩ := T.says.def_ 28
  exact okFG (j := 0) (st := s_law_taken) F sc_law_taken rfl rfl (fun _ _ _ _ _ _ us hl => match us, hl with | [_, _, _, _], _ => rfl) (fun cdv A outer s H E hgd hr => qs_cons (qs_if (qt_cmp (of_in (u65 hr)) (qe_ix (qv 0) (qk_int)) (qe_tup (qa_cons (qk_str) (qa_cons (qk_str) (qa_nil))))) (qs_cons (qs_ret (qe_tup (qa_nil))) (qs_nil)) (qs_nil)) (qs_cons (qs_set 4 (qe_bin (of_mod) (qe_typ cf_int (T.free "int" (by decide +kernel)) (qa_cons (qe_bin (of_sub) (qv 1) (qv 3)) (qa_nil))) (qv 2)) sc_law_taken.nd) (qs_cons (qs_if (qt_w (qw_or (qt_cmp (of_ne hr.units) (qe_ix (qv 0) (qk_int)) (qk_str)) (qw_or1 (qt_cmp (of_eq hr.units) (qv 4) (qv 3))))) (qs_cons (qs_ret (qe_tup (qa_cons (qv 3) (qa_nil)))) (qs_nil)) (qs_nil)) (qs_cons (qs_ret (qe_if (qt_cmp (of_lt) (qv 3) (qv 4)) (qe_tup (qa_cons (qv 3) (qa_cons (qv 4) (qa_nil)))) (qe_tup (qa_cons (qv 4) (qa_cons (qv 3) (qa_nil)))))) (qs_nil)))))
/-! need_player -/
abbrev N_need_player : List Str := ["player"]
theorem sc_need_player : FnScope N_need_player ["player"] (defScope s_need_player) := ⟨rfl, rfl, rfl, by decide +kernel, rfl, by decide +kernel, by decide +kernel⟩
noncomputable def F_need_player : Fn := dfn 1 1 (sSeq (sIf (tNo (tru (cal F_is_between (aCons (v 0) (aCons (k (.int 0)) (aCons (k (.int 1)) (aNil))))))) (sSeq (sRai "BadPlayer" ["value"] (aCons (v 0) (aNil))) (sNil)) (sNil)) (sNil))
theorem w_need_player (T : TX P K mg) : FnF P w K mg base 3 (He.ga K "need_player") F_need_player := by
  obtain ⟨fd, F⟩ := T.says.def_ 29
  exact okF (j := 2) (st := s_need_player) F sc_need_player rfl rfl (fun _ _ _ _ _ _ us hl => match us, hl with | [_], _ => rfl) (fun cdv A outer s H E hr => qs_cons (qs_if (qt_not (qt_tru (qe_call (w_is_between T) (hr.mono (by decide)) (T.glo "is_between" (by decide +kernel)) (kp_is_between T) (qa_cons (qv 0) (qa_cons (qk_int) (qa_cons (qk_int) (qa_nil))))))) (qs_cons (qs_rai1 rfl (oex_of (T.xc "BadPlayer" (by decide +kernel)) (T.xi "BadPlayer" (by decide +kernel))) (T.meth "BadPlayer" "__init__" (by decide +kernel)).at_ (isFn_ty (T.meth "BadPlayer" "__init__" (by decide +kernel)).fn) (x_BadPlayer T) (hr.mono (by decide)) (xb_BadPlayer T) (T.glo "BadPlayer" (by decide +kernel)) (qa_cons (qv 0) (qa_nil))) (qs_nil)) (qs_nil)) (qs_nil))
/-! Ring.player_of -/
abbrev N_Ring_player_of : List Str := ["self", "pit"]
theorem sc_Ring_player_of : FnScope N_Ring_player_of ["self", "pit"] (defScope s_Ring_player_of) := ⟨rfl, rfl, rfl, by decide +kernel, rfl, by decide +kernel, by decide +kernel⟩
noncomputable def F_Ring_player_of : Fn := dfn 2 2 (sSeq (sExp (mtO [("Ring", F_Ring_need_pit)] "need_pit" (v 0) (aCons (v 1) (aNil)))) (sSeq (sRet (ifE (tst (bin (inG false) (bin ixG (una (fldG ["Ring"] "signs") (v 0)) (v 1)) (k (.str "ab")))) (mthS indexG (k (.str "ab")) (bin ixG (una (fldG ["Ring"] "signs") (v 0)) (v 1))) (k .non))) (sNil)))
theorem w_Ring_player_of (T : TX P K mg) : FnF P w K mg base 4 (mO K "Ring" "player_of") F_Ring_player_of := by
  obtain ⟨fd, F⟩ := T.says.def_ 30
  exact okF (j := 3) (st := s_Ring_player_of) F sc_Ring_player_of rfl rfl (fun _ _ _ _ _ _ us hl => match us, hl with | [_, _], _ => rfl) (fun cdv A outer s H E hr => qs_cons (qs_exp (qe_mt (mt_End_pits_taken_need_pit_8 T) (hr.mono (by decide)) (qv 0) (qa_cons (qv 1) (qa_nil)))) (qs_cons (qs_ret (qe_if (qt_cmp (of_in (u65 hr)) (qe_ix (qe_fld (fl_signs T) (qv 0)) (qv 1)) (qg_str (T.strc "PITS" "ab" (by decide +kernel)))) (qe_index (qg_str (T.strc "PITS" "ab" (by decide +kernel))) (qe_ix (qe_fld (fl_signs T) (qv 0)) (qv 1))) (qk_non))) (qs_nil)))
/-! Ring.store_of -/
abbrev N_Ring_store_of : List Str := ["self", "player"]
theorem sc_Ring_store_of : FnScope N_Ring_store_of ["self", "player"] (defScope s_Ring_store_of) := ⟨rfl, rfl, rfl, by decide +kernel, rfl, by decide +kernel, by decide +kernel⟩
noncomputable def F_Ring_store_of : Fn := dfn 2 2 (sSeq (sExp (cal F_need_player (aCons (v 1) (aNil)))) (sSeq (sRet (ifE (tst (bin (inG false) (bin ixG (k (.str "AB")) (v 1)) (una (fldG ["Ring"] "signs") (v 0)))) (mthS indexG (una (fldG ["Ring"] "signs") (v 0)) (bin ixG (k (.str "AB")) (v 1))) (k .non))) (sNil)))
theorem w_Ring_store_of (T : TX P K mg) : FnF P w K mg base 4 (mO K "Ring" "store_of") F_Ring_store_of := by
  obtain ⟨fd, F⟩ := T.says.def_ 31
  exact okF (j := 3) (st := s_Ring_store_of) F sc_Ring_store_of rfl rfl (fun _ _ _ _ _ _ us hl => match us, hl with | [_, _], _ => rfl) (fun cdv A outer s H E hr => qs_cons (qs_exp (qe_call (w_need_player T) (hr.mono (by decide)) (T.glo "need_player" (by decide +kernel)) (kp_need_player T) (qa_cons (qv 1) (qa_nil)))) (qs_cons (qs_ret (qe_if (qt_cmp (of_in (u65 hr)) (qe_ix (qg_str (T.strc "STORES" "AB" (by decide +kernel))) (qv 1)) (qe_fld (fl_signs T) (qv 0))) (qe_index (qe_fld (fl_signs T) (qv 0)) (qe_ix (qg_str (T.strc "STORES" "AB" (by decide +kernel))) (qv 1))) (qk_non))) (qs_nil)))
/-! End.is_at -/
theorem mt_End_is_at_store_of_29 {X : Cx} (T : TX X.prog X.K X.mg) : Mths X 4 "store_of" [("Ring", F_Ring_store_of)] := by
  intro c F h
  have h := memLk h
  simp only [List.mem_cons, List.not_mem_nil, or_false, Prod.mk.injEq] at h
  rcases h with ⟨rfl, rfl⟩
  · exact ⟨T.cl "Ring" (by decide +kernel), _, T.meth "Ring" "store_of" (by decide +kernel), (w_Ring_store_of T).mono (by decide)⟩
theorem mt_End_is_at_player_of_30 {X : Cx} (T : TX X.prog X.K X.mg) : Mths X 4 "player_of" [("Ring", F_Ring_player_of)] := by
  intro c F h
  have h := memLk h
  simp only [List.mem_cons, List.not_mem_nil, or_false, Prod.mk.injEq] at h
  rcases h with ⟨rfl, rfl⟩
  · exact ⟨T.cl "Ring" (by decide +kernel), _, T.meth "Ring" "player_of" (by decide +kernel), (w_Ring_player_of T).mono (by decide)⟩
abbrev N_End_is_at : List Str := ["self", "ring", "player", "pit", "mover"]
theorem sc_End_is_at : FnScope N_End_is_at ["self", "ring", "player", "pit"] (defScope s_End_is_at) := ⟨rfl, rfl, rfl, by decide +kernel, rfl, by decide +kernel, by decide +kernel⟩
noncomputable def B_End_is_at : MS := sSeq (sExp (cal F_need_player (aCons (v 2) (aNil)))) (sSeq (sSet 4 (mtO [("Ring", F_Ring_player_of)] "player_of" (v 1) (aCons (v 3) (aNil)))) (sSeq (sMtc (una (fldG ["Across", "Again", "End", "Quiet", "Take", "TakeAgain"] "where") (v 0)) (mcC "own" (sSeq (sRet (bin (eqG false) (v 4) (v 2))) (sNil)) (mcC "other" (sSeq (sRet (bin (eqG false) (v 4) (bin (subG) (k (.int 1)) (v 2)))) (sNil)) (mcC "store" (sSeq (sRet (bin (eqG false) (mtO [("Ring", F_Ring_store_of)] "store_of" (v 1) (aCons (v 2) (aNil))) (v 3))) (sNil)) (mcC "theirs" (sSeq (sRet (bin (eqG false) (mtO [("Ring", F_Ring_store_of)] "store_of" (v 1) (aCons (bin (subG) (k (.int 1)) (v 2)) (aNil))) (v 3))) (sNil)) (mcC "open" (sSeq (sRet (bin (eqG false) (bin ixG (una (fldG ["Ring"] "signs") (v 1)) (v 3)) (k (.str "o")))) (sNil)) (mcN))))))) (sSeq (sRet (k (.bl true))) (sNil))))
theorem b_End_is_at (T : TX P K mg) : ∀ (cdv : Value) (A : Around) (outer : List Env) (s : Shared) (H : Hp) (E : XK), Room 4 (A.deeper (envOfC "End.is_at" (defScope s_End_is_at) s.heap.objs.size (mO K "End" "is_at") cdv)) → QSs (cxOf (L2.CX P w) P w K mg base N_End_is_at "End.is_at" (defScope s_End_is_at) (mO K "End" "is_at") cdv A outer s H E) (defBody s_End_is_at) B_End_is_at := fun cdv A outer s H E hr => qs_cons (qs_exp (qe_call (w_need_player T) (hr.mono (by decide)) (T.glo "need_player" (by decide +kernel)) (kp_need_player T) (qa_cons (qv 2) (qa_nil)))) (qs_cons (qs_set 4 (qe_mt (mt_End_is_at_player_of_30 T) (hr.mono (by decide)) (qv 1) (qa_cons (qv 3) (qa_nil))) sc_End_is_at.nd) (qs_cons (qs_mtc (qe_fld (fl_where T) (qv 0)) (qm_cons (qs_cons (qs_ret (qe_cmp (of_eq hr.units) (qv 4) (qv 2))) (qs_nil)) (qm_cons (qs_cons (qs_ret (qe_cmp (of_eq hr.units) (qv 4) (qe_bin (of_sub) (qk_int) (qv 2)))) (qs_nil)) (qm_cons (qs_cons (qs_ret (qe_cmp (of_eq hr.units) (qe_mt (mt_End_is_at_store_of_29 T) (hr.mono (by decide)) (qv 1) (qa_cons (qv 2) (qa_nil))) (qv 3))) (qs_nil)) (qm_cons (qs_cons (qs_ret (qe_cmp (of_eq hr.units) (qe_mt (mt_End_is_at_store_of_29 T) (hr.mono (by decide)) (qv 1) (qa_cons (qe_bin (of_sub) (qk_int) (qv 2)) (qa_nil))) (qv 3))) (qs_nil)) (qm_cons (qs_cons (qs_ret (qe_cmp (of_eq hr.units) (qe_ix (qe_fld (fl_signs T) (qv 1)) (qv 3)) (qg_str (T.strc "OPEN" "o" (by decide +kernel))))) (qs_nil)) (qm_nil))))))) (qs_cons (qs_ret (qk_bl)) (qs_nil))))
noncomputable def F_End_is_at : Fn := dfn 4 5 B_End_is_at
theorem w_End_is_at (T : TX P K mg) : FnF P w K mg base 5 (mO K "End" "is_at") F_End_is_at := by
  obtain ⟨fd, F⟩ := T.says.def_ 32
  exact okF (j := 4) (st := s_End_is_at) F sc_End_is_at rfl rfl (fun _ _ _ _ _ _ us hl => match us, hl with | [_, _, _, _], _ => rfl) (b_End_is_at T)
/-! Held.__contains__ -/
abbrev N_HeldD_containsD : List Str := ["self", "n"]
theorem sc_HeldD_containsD : FnScope N_HeldD_containsD ["self", "n"] (defScope s_HeldD_containsD) := ⟨rfl, rfl, rfl, by decide +kernel, rfl, by decide +kernel, by decide +kernel⟩
noncomputable def F_HeldD_containsD : Fn := dfn 2 2 (sSeq (sIf (tOr (tNo (tru (cal F_is_whole (aCons (v 1) (aNil))))) (tst (bin (ltG) (v 1) (k (.int 0))))) (sSeq (sRet (k (.bl false))) (sNil)) (sNil)) (sSeq (sRet (ifE (tst (bin (gtG) (v 1) (k (.int 3)))) (una (fldG ["Held"] "is_endless") (v 0)) (bin (inG false) (v 1) (una (fldG ["Held"] "listed") (v 0))))) (sNil)))
theorem w_HeldD_containsD (T : TX P K mg) : FnF P w K mg base 2 (mO K "Held" "__contains__") F_HeldD_containsD := by
  obtain ⟨fd, F⟩ := T.says.def_ 33
  exact okF (j := 1) (st := s_HeldD_containsD) F sc_HeldD_containsD rfl rfl (fun _ _ _ _ _ _ us hl => match us, hl with | [_, _], _ => rfl) (fun cdv A outer s H E hr => qs_cons (qs_if (qt_w (qw_or (qt_not (qt_tru (qe_call (w_is_whole T) (hr.mono (by decide)) (T.glo "is_whole" (by decide +kernel)) (kp_is_whole T) (qa_cons (qv 1) (qa_nil))))) (qw_or1 (qt_cmp (of_lt) (qv 1) (qk_int))))) (qs_cons (qs_ret (qk_bl)) (qs_nil)) (qs_nil)) (qs_cons (qs_ret (qe_if (qt_cmp (of_gt) (qv 1) (qg_int (T.intc "MOST_NUMBER" 3 (by decide +kernel)))) (qe_fld (fl_is_endless T) (qv 0)) (qe_cmp (of_in (u65 hr)) (qv 1) (qe_fld (fl_listed T) (qv 0))))) (qs_nil)))
/-! need_seeds -/
abbrev N_need_seeds : List Str := ["seeds", "low"]
theorem sc_need_seeds : FnScope N_need_seeds ["seeds", "low"] (defScope s_need_seeds) := ⟨rfl, rfl, rfl, by decide +kernel, rfl, by decide +kernel, by decide +kernel⟩
noncomputable def F_need_seeds : Fn := dfn 2 2 (sSeq (sIf (tOr (tNo (tru (cal F_is_whole (aCons (v 0) (aNil))))) (tst (bin (ltG) (v 0) (v 1)))) (sSeq (sRai "BadNumber" ["value"] (aCons (v 0) (aNil))) (sNil)) (sNil)) (sNil))
theorem w_need_seeds (T : TX P K mg) : FnF P w K mg base 3 (He.ga K "need_seeds") F_need_seeds := by
  obtain ⟨fd, F⟩ := T.says.def_ 34
  exact okF (j := 2) (st := s_need_seeds) F sc_need_seeds rfl rfl (fun _ _ _ _ _ _ us hl => match us, hl with | [_, _], _ => rfl) (fun cdv A outer s H E hr => qs_cons (qs_if (qt_w (qw_or (qt_not (qt_tru (qe_call (w_is_whole T) (hr.mono (by decide)) (T.glo "is_whole" (by decide +kernel)) (kp_is_whole T) (qa_cons (qv 0) (qa_nil))))) (qw_or1 (qt_cmp (of_lt) (qv 0) (qv 1))))) (qs_cons (qs_rai1 rfl (oex_of (T.xc "BadNumber" (by decide +kernel)) (T.xi "BadNumber" (by decide +kernel))) (T.meth "BadNumber" "__init__" (by decide +kernel)).at_ (isFn_ty (T.meth "BadNumber" "__init__" (by decide +kernel)).fn) (x_BadNumber T) (hr.mono (by decide)) (xb_BadNumber T) (T.glo "BadNumber" (by decide +kernel)) (qa_cons (qv 0) (qa_nil))) (qs_nil)) (qs_nil)) (qs_nil))
/-! End.fits -/
theorem ow_End_fits_contains_31 {X : Cx} (T : TX X.prog X.K X.mg) : Owns X 2 "__contains__" [("Held", F_HeldD_containsD)] := by
  intro c F h
  have h := memLk h
  simp only [List.mem_cons, List.not_mem_nil, or_false, Prod.mk.injEq] at h
  rcases h with ⟨rfl, rfl⟩
  · exact ⟨_, Own.of (T.meth "Held" "__contains__" (by decide +kernel)), (w_HeldD_containsD T).mono (by decide)⟩
theorem mt_End_fits_is_at_32 {X : Cx} (T : TX X.prog X.K X.mg) : Mths X 5 "is_at" [("End", F_End_is_at), ("Quiet", F_End_is_at), ("Again", F_End_is_at), ("Take", F_End_is_at), ("Across", F_End_is_at), ("TakeAgain", F_End_is_at)] := by
  intro c F h
  have h := memLk h
  simp only [List.mem_cons, List.not_mem_nil, or_false, Prod.mk.injEq] at h
  rcases h with ⟨rfl, rfl⟩ | ⟨rfl, rfl⟩ | ⟨rfl, rfl⟩ | ⟨rfl, rfl⟩ | ⟨rfl, rfl⟩ | ⟨rfl, rfl⟩
  · exact ⟨T.cl "End" (by decide +kernel), _, T.meth "End" "is_at" (by decide +kernel), (w_End_is_at T).mono (by decide)⟩
  · exact ⟨T.cl "Quiet" (by decide +kernel), _, T.meth "Quiet" "is_at" (by decide +kernel), (ihF (T.ih "Quiet" "is_at" "End" (by decide +kernel)) (w_End_is_at T)).mono (by decide)⟩
  · exact ⟨T.cl "Again" (by decide +kernel), _, T.meth "Again" "is_at" (by decide +kernel), (ihF (T.ih "Again" "is_at" "End" (by decide +kernel)) (w_End_is_at T)).mono (by decide)⟩
  · exact ⟨T.cl "Take" (by decide +kernel), _, T.meth "Take" "is_at" (by decide +kernel), (ihF (T.ih "Take" "is_at" "End" (by decide +kernel)) (w_End_is_at T)).mono (by decide)⟩
  · exact ⟨T.cl "Across" (by decide +kernel), _, T.meth "Across" "is_at" (by decide +kernel), (ihF (T.ih "Across" "is_at" "End" (by decide +kernel)) (w_End_is_at T)).mono (by decide)⟩
  · exact ⟨T.cl "TakeAgain" (by decide +kernel), _, T.meth "TakeAgain" "is_at" (by decide +kernel), (ihF (T.ih "TakeAgain" "is_at" "End" (by decide +kernel)) (w_End_is_at T)).mono (by decide)⟩
abbrev N_End_fits : List Str := ["self", "ring", "player", "pit", "before", "facing", "is_there"]
theorem sc_End_fits : FnScope N_End_fits ["self", "ring", "player", "pit", "before", "facing"] (defScope s_End_fits) := ⟨rfl, rfl, rfl, by decide +kernel, rfl, by decide +kernel, by decide +kernel⟩
noncomputable def B_End_fits : MS := sSeq (sSet 6 (mtO [("End", F_End_is_at), ("Quiet", F_End_is_at), ("Again", F_End_is_at), ("Take", F_End_is_at), ("Across", F_End_is_at), ("TakeAgain", F_End_is_at)] "is_at" (v 0) (aCons (v 1) (aCons (v 2) (aCons (v 3) (aNil)))))) (sSeq (sExp (cal F_need_seeds (aCons (v 4) (aCons (k (.int 0)) (aNil))))) (sSeq (sExp (cal F_need_seeds (aCons (v 5) (aCons (k (.int 0)) (aNil))))) (sSeq (sRet (anE (v 6) (anE (bin (inO [("Held", F_HeldD_containsD)] (inG false)) (v 4) (una (fldG ["Across", "Again", "End", "Quiet", "Take", "TakeAgain"] "held") (v 0))) (orE (bin (gtG) (v 5) (k (.int 0))) (noE (una (fldG ["Across", "Again", "End", "Quiet", "Take", "TakeAgain"] "full") (v 0))))))) (sNil))))
theorem b_End_fits (T : TX P K mg) : ∀ (cdv : Value) (A : Around) (outer : List Env) (s : Shared) (H : Hp) (E : XK), Room 5 (A.deeper (envOfC "End.fits" (defScope s_End_fits) s.heap.objs.size (mO K "End" "fits") cdv)) → QSs (cxOf (L2.CX P w) P w K mg base N_End_fits "End.fits" (defScope s_End_fits) (mO K "End" "fits") cdv A outer s H E) (defBody s_End_fits) B_End_fits := fun cdv A outer s H E hr => qs_cons (qs_set 6 (qe_mt (mt_End_fits_is_at_32 T) (hr.mono (by decide)) (qv 0) (qa_cons (qv 1) (qa_cons (qv 2) (qa_cons (qv 3) (qa_nil))))) sc_End_fits.nd) (qs_cons (qs_exp (qe_call (w_need_seeds T) (hr.mono (by decide)) (T.glo "need_seeds" (by decide +kernel)) (kp_need_seeds T) (qa_cons (qv 4) (qa_cons (qk_int) (qa_nil))))) (qs_cons (qs_exp (qe_call (w_need_seeds T) (hr.mono (by decide)) (T.glo "need_seeds" (by decide +kernel)) (kp_need_seeds T) (qa_cons (qv 5) (qa_cons (qk_int) (qa_nil))))) (qs_cons (qs_ret (qe_and (qv 6) (qe_and (qe_cmp (of_inO (ow_End_fits_contains_31 T) (hr.mono (by decide)) (of_in (u65 hr))) (qv 4) (qe_fld (fl_held T) (qv 0))) (qe_one (qe_or (qe_cmp (of_gt) (qv 5) (qk_int)) (qe_one (qe_not (qe_fld (fl_full T) (qv 0))))))))) (qs_nil))))
noncomputable def F_End_fits : Fn := dfn 6 7 B_End_fits
theorem w_End_fits (T : TX P K mg) : FnF P w K mg base 6 (mO K "End" "fits") F_End_fits := by
  obtain ⟨fd, F⟩ := T.says.def_ 35
  exact okF (j := 5) (st := s_End_fits) F sc_End_fits rfl rfl (fun _ _ _ _ _ _ us hl => match us, hl with | [_, _, _, _, _, _], _ => rfl) (b_End_fits T)
/-! _law_is_at -/
abbrev N_law_is_at : List Str := ["_law_signs_here", "_law_who", "_law_here", "_law_place", "_law_sign", "_law_spot"]
theorem sc_law_is_at : FnScope N_law_is_at ["_law_signs_here", "_law_who", "_law_here", "_law_place"] (defScope s_law_is_at) := ⟨rfl, rfl, rfl, by decide +kernel, rfl, by decide +kernel, by decide +kernel⟩
noncomputable def F_law_is_at : Fn := dfn 4 6 (sSeq (sSet 4 (bin ixG (v 0) (v 2))) (sSeq (sIf (tst (bin (eqG false) (v 3) (k (.str "any")))) (sSeq (sRet (k (.bl true))) (sNil)) (sNil)) (sSeq (sSet 5 (gt2E (dicM [("own", v 1), ("other", bin (subG) (k (.int 1)) (v 1)), ("store", bin (addG) (k (.int 2)) (v 1)), ("theirs", bin (subG) (k (.int 3)) (v 1))]) (v 3) (k (.int 4)))) (sSeq (sRet (bin (eqG false) (v 4) (bin ixG (k (.str "abABo")) (v 5)))) (sNil)))))
theorem w_law_is_at (T : TX P K mg) : FnFG P w K mg base 1 (He.ga K "_law_is_at") F_law_is_at := by
  obtain ⟨fd, F⟩ := T.says.def_ 36
  exact okFG (j := 0) (st := s_law_is_at) F sc_law_is_at rfl rfl (fun _ _ _ _ _ _ us hl => match us, hl with | [_, _, _, _], _ => rfl) (fun cdv A outer s H E hgd hr => qs_cons (qs_set 4 (qe_ix (qv 0) (qv 2)) sc_law_is_at.nd) (qs_cons (qs_if (qt_cmp (of_eq hr.units) (qv 3) (qk_str)) (qs_cons (qs_ret (qk_bl)) (qs_nil)) (qs_nil)) (qs_cons (qs_set 5 (qe_get2 (u1 hr) (qe_dicM (qpm_cons (qv 1) (qpm_cons (qe_bin (of_sub) (qk_int) (qv 1)) (qpm_cons (qe_bin (of_add) (qk_int) (qv 1)) (qpm_cons (qe_bin (of_sub) (qk_int) (qv 1)) (qpm_nil)))))) (qv 3) (qk_int)) sc_law_is_at.nd) (qs_cons (qs_ret (qe_cmp (of_eq hr.units) (qv 4) (qe_ix (qk_str) (qv 5)))) (qs_nil)))))
/-! _law_fits -/
abbrev N_law_fits : List Str := ["_law_told", "_law_signs_here", "_law_who", "_law_here", "_law_lay_there", "_law_across_it", "_law_place", "_law_is_full", "_law_numbers_here", "_law_is_endless"]
theorem sc_law_fits : FnScope N_law_fits ["_law_told", "_law_signs_here", "_law_who", "_law_here", "_law_lay_there", "_law_across_it"] (defScope s_law_fits) := ⟨rfl, rfl, rfl, by decide +kernel, rfl, by decide +kernel, by decide +kernel⟩
noncomputable def F_law_fits : Fn := dfn 6 10 (sSeq (sPar 6 7 (aCons (bin ixG (v 0) (k (.int 1))) (aCons (bin ixG (v 0) (k (.int 3))) (aNil)))) (sSeq (sAsg (.tp [8, 9]) (bin ixG (v 0) (k (.int 2)))) (sSeq (sIf (tOr (tNo (tru (cal F_law_is_at (aCons (v 1) (aCons (v 2) (aCons (v 3) (aCons (v 6) (aNil)))))))) (tAn (tru (v 7)) (tst (bin (eqG false) (v 5) (k (.int 0)))))) (sSeq (sRet (k (.bl false))) (sNil)) (sNil)) (sSeq (sRet (ifE (tst (bin (ltG) (v 4) (k (.int 4)))) (bin (inG false) (v 4) (v 8)) (v 9))) (sNil)))))
theorem w_law_fits (T : TX P K mg) : FnFG P w K mg base 2 (He.ga K "_law_fits") F_law_fits := by
  obtain ⟨fd, F⟩ := T.says.def_ 37
  exact okFG (j := 1) (st := s_law_fits) F sc_law_fits rfl rfl (fun _ _ _ _ _ _ us hl => match us, hl with | [_, _, _, _, _, _], _ => rfl) (fun cdv A outer s H E hgd hr => qs_cons (qs_par 6 7 rfl (qa_cons (qe_ix (qv 0) (qk_int)) (qa_cons (qe_ix (qv 0) (qk_int)) (qa_nil))) sc_law_fits.nd) (qs_cons (qs_asg (qe_ix (qv 0) (qk_int)) (qg_tup rfl (qgs_cons 8 (qgs_cons 9 (qgs_nil) sc_law_fits.nd) sc_law_fits.nd) rfl)) (qs_cons (qs_if (qt_w (qw_or (qt_not (qt_tru (qe_callG (w_law_is_at T) hgd (hr.mono (by decide)) (T.glo "_law_is_at" (by decide +kernel)) (kp_law_is_at T) (qa_cons (qv 1) (qa_cons (qv 2) (qa_cons (qv 3) (qa_cons (qv 6) (qa_nil)))))))) (qw_or1 (qt_w (qw_and (qt_tru (qv 7)) (qw_and1 (qt_cmp (of_eq hr.units) (qv 5) (qk_int)))))))) (qs_cons (qs_ret (qk_bl)) (qs_nil)) (qs_nil)) (qs_cons (qs_ret (qe_if (qt_cmp (of_lt) (qv 4) (qk_int)) (qe_cmp (of_in (u65 hr)) (qv 4) (qv 8)) (qv 9))) (qs_nil)))))
/-! _law_acts_right -/
theorem wk_End_fits_2_facing_before_pit_player (T : TX P K mg) : FnKO P w K mg base 6 (mO K "End" "fits") 2 ["facing", "before", "pit", "player"] (kwF [0, 1, 5, 4, 3, 2] [] (dfn 6 7 B_End_fits)) := by
  obtain ⟨fd, F⟩ := T.says.def_ 35
  exact okK0 (j := 5) (st := s_End_fits) (m := 2) ["facing", "before", "pit", "player"] [0, 1, 5, 4, 3, 2] F sc_End_fits rfl rfl (fun _ _ _ _ _ _ us ws h1 h2 => match us, ws, h1, h2 with | [_, _], [_, _, _, _], _, _ => rfl) (b_End_fits T)
theorem mk_law_acts_right_fits_34 {X : Cx} (T : TX X.prog X.K X.mg) : MthK X 6 2 ["facing", "before", "pit", "player"] "fits" [("End", (kwF [0, 1, 5, 4, 3, 2] [] (dfn 6 7 B_End_fits))), ("Quiet", (kwF [0, 1, 5, 4, 3, 2] [] (dfn 6 7 B_End_fits))), ("Again", (kwF [0, 1, 5, 4, 3, 2] [] (dfn 6 7 B_End_fits))), ("Take", (kwF [0, 1, 5, 4, 3, 2] [] (dfn 6 7 B_End_fits))), ("Across", (kwF [0, 1, 5, 4, 3, 2] [] (dfn 6 7 B_End_fits))), ("TakeAgain", (kwF [0, 1, 5, 4, 3, 2] [] (dfn 6 7 B_End_fits)))] := by
  intro c F h
  have h := memLk h
  simp only [List.mem_cons, List.not_mem_nil, or_false, Prod.mk.injEq] at h
  rcases h with ⟨rfl, rfl⟩ | ⟨rfl, rfl⟩ | ⟨rfl, rfl⟩ | ⟨rfl, rfl⟩ | ⟨rfl, rfl⟩ | ⟨rfl, rfl⟩
  · exact ⟨T.cl "End" (by decide +kernel), _, T.meth "End" "fits" (by decide +kernel), (wk_End_fits_2_facing_before_pit_player T).mono (by decide)⟩
  · exact ⟨T.cl "Quiet" (by decide +kernel), _, T.meth "Quiet" "fits" (by decide +kernel), (ihK (T.ih "Quiet" "fits" "End" (by decide +kernel)) (wk_End_fits_2_facing_before_pit_player T)).mono (by decide)⟩
  · exact ⟨T.cl "Again" (by decide +kernel), _, T.meth "Again" "fits" (by decide +kernel), (ihK (T.ih "Again" "fits" "End" (by decide +kernel)) (wk_End_fits_2_facing_before_pit_player T)).mono (by decide)⟩
  · exact ⟨T.cl "Take" (by decide +kernel), _, T.meth "Take" "fits" (by decide +kernel), (ihK (T.ih "Take" "fits" "End" (by decide +kernel)) (wk_End_fits_2_facing_before_pit_player T)).mono (by decide)⟩
  · exact ⟨T.cl "Across" (by decide +kernel), _, T.meth "Across" "fits" (by decide +kernel), (ihK (T.ih "Across" "fits" "End" (by decide +kernel)) (wk_End_fits_2_facing_before_pit_player T)).mono (by decide)⟩
  · exact ⟨T.cl "TakeAgain" (by decide +kernel), _, T.meth "TakeAgain" "fits" (by decide +kernel), (ihK (T.ih "TakeAgain" "fits" "End" (by decide +kernel)) (wk_End_fits_2_facing_before_pit_player T)).mono (by decide)⟩
theorem mt_law_acts_right_fits_35 {X : Cx} (T : TX X.prog X.K X.mg) : Mths X 6 "fits" [("End", F_End_fits), ("Quiet", F_End_fits), ("Again", F_End_fits), ("Take", F_End_fits), ("Across", F_End_fits), ("TakeAgain", F_End_fits)] := by
  intro c F h
  have h := memLk h
  simp only [List.mem_cons, List.not_mem_nil, or_false, Prod.mk.injEq] at h
  rcases h with ⟨rfl, rfl⟩ | ⟨rfl, rfl⟩ | ⟨rfl, rfl⟩ | ⟨rfl, rfl⟩ | ⟨rfl, rfl⟩ | ⟨rfl, rfl⟩
  · exact ⟨T.cl "End" (by decide +kernel), _, T.meth "End" "fits" (by decide +kernel), (w_End_fits T).mono (by decide)⟩
  · exact ⟨T.cl "Quiet" (by decide +kernel), _, T.meth "Quiet" "fits" (by decide +kernel), (ihF (T.ih "Quiet" "fits" "End" (by decide +kernel)) (w_End_fits T)).mono (by decide)⟩
  · exact ⟨T.cl "Again" (by decide +kernel), _, T.meth "Again" "fits" (by decide +kernel), (ihF (T.ih "Again" "fits" "End" (by decide +kernel)) (w_End_fits T)).mono (by decide)⟩
  · exact ⟨T.cl "Take" (by decide +kernel), _, T.meth "Take" "fits" (by decide +kernel), (ihF (T.ih "Take" "fits" "End" (by decide +kernel)) (w_End_fits T)).mono (by decide)⟩
  · exact ⟨T.cl "Across" (by decide +kernel), _, T.meth "Across" "fits" (by decide +kernel), (ihF (T.ih "Across" "fits" "End" (by decide +kernel)) (w_End_fits T)).mono (by decide)⟩
  · exact ⟨T.cl "TakeAgain" (by decide +kernel), _, T.meth "TakeAgain" "fits" (by decide +kernel), (ihF (T.ih "TakeAgain" "fits" "End" (by decide +kernel)) (w_End_fits T)).mono (by decide)⟩
theorem wk_End_is_at_1_pit_player_ring (T : TX P K mg) : FnKO P w K mg base 5 (mO K "End" "is_at") 1 ["pit", "player", "ring"] (kwF [0, 3, 2, 1] [] (dfn 4 5 B_End_is_at)) := by
  obtain ⟨fd, F⟩ := T.says.def_ 32
  exact okK0 (j := 4) (st := s_End_is_at) (m := 1) ["pit", "player", "ring"] [0, 3, 2, 1] F sc_End_is_at rfl rfl (fun _ _ _ _ _ _ us ws h1 h2 => match us, ws, h1, h2 with | [_], [_, _, _], _, _ => rfl) (b_End_is_at T)
theorem mk_law_acts_right_is_at_37 {X : Cx} (T : TX X.prog X.K X.mg) : MthK X 5 1 ["pit", "player", "ring"] "is_at" [("End", (kwF [0, 3, 2, 1] [] (dfn 4 5 B_End_is_at))), ("Quiet", (kwF [0, 3, 2, 1] [] (dfn 4 5 B_End_is_at))), ("Again", (kwF [0, 3, 2, 1] [] (dfn 4 5 B_End_is_at))), ("Take", (kwF [0, 3, 2, 1] [] (dfn 4 5 B_End_is_at))), ("Across", (kwF [0, 3, 2, 1] [] (dfn 4 5 B_End_is_at))), ("TakeAgain", (kwF [0, 3, 2, 1] [] (dfn 4 5 B_End_is_at)))] := by
  intro c F h
  have h := memLk h
  simp only [List.mem_cons, List.not_mem_nil, or_false, Prod.mk.injEq] at h
  rcases h with ⟨rfl, rfl⟩ | ⟨rfl, rfl⟩ | ⟨rfl, rfl⟩ | ⟨rfl, rfl⟩ | ⟨rfl, rfl⟩ | ⟨rfl, rfl⟩
  · exact ⟨T.cl "End" (by decide +kernel), _, T.meth "End" "is_at" (by decide +kernel), (wk_End_is_at_1_pit_player_ring T).mono (by decide)⟩
  · exact ⟨T.cl "Quiet" (by decide +kernel), _, T.meth "Quiet" "is_at" (by decide +kernel), (ihK (T.ih "Quiet" "is_at" "End" (by decide +kernel)) (wk_End_is_at_1_pit_player_ring T)).mono (by decide)⟩
  · exact ⟨T.cl "Again" (by decide +kernel), _, T.meth "Again" "is_at" (by decide +kernel), (ihK (T.ih "Again" "is_at" "End" (by decide +kernel)) (wk_End_is_at_1_pit_player_ring T)).mono (by decide)⟩
  · exact ⟨T.cl "Take" (by decide +kernel), _, T.meth "Take" "is_at" (by decide +kernel), (ihK (T.ih "Take" "is_at" "End" (by decide +kernel)) (wk_End_is_at_1_pit_player_ring T)).mono (by decide)⟩
  · exact ⟨T.cl "Across" (by decide +kernel), _, T.meth "Across" "is_at" (by decide +kernel), (ihK (T.ih "Across" "is_at" "End" (by decide +kernel)) (wk_End_is_at_1_pit_player_ring T)).mono (by decide)⟩
  · exact ⟨T.cl "TakeAgain" (by decide +kernel), _, T.meth "TakeAgain" "is_at" (by decide +kernel), (ihK (T.ih "TakeAgain" "is_at" "End" (by decide +kernel)) (wk_End_is_at_1_pit_player_ring T)).mono (by decide)⟩
abbrev N_law_acts_right : List Str := ["_law_made_here", "_law_told", "_law_ground", "_law_here", "_law_who", "_law_due", "_law_heard", "_law_lay_there", "_law_across_it"]
theorem sc_law_acts_right : FnScope N_law_acts_right ["_law_made_here", "_law_told", "_law_ground", "_law_here"] (defScope s_law_acts_right) := ⟨rfl, rfl, rfl, by decide +kernel, rfl, by decide +kernel, by decide +kernel⟩
noncomputable def F_law_acts_right : Fn := dfn 4 9 (sSeq (sFor (.nm 4) (iSeq (tupE (aCons (k (.int 0)) (aCons (k (.int 1)) (aNil))))) (sSeq (sSet 5 (cal F_law_is_at (aCons (una (fldG ["Ring"] "signs") (v 2)) (aCons (v 4) (aCons (v 3) (aCons (bin ixG (v 1) (k (.int 1))) (aNil))))))) (sSeq (sSet 6 (lstE (aCons (mtO [("End", F_End_is_at), ("Quiet", F_End_is_at), ("Again", F_End_is_at), ("Take", F_End_is_at), ("Across", F_End_is_at), ("TakeAgain", F_End_is_at)] "is_at" (v 0) (aCons (v 2) (aCons (v 4) (aCons (v 3) (aNil))))) (aCons (mtKN [("End", (kwF [0, 3, 2, 1] [] (dfn 4 5 B_End_is_at))), ("Quiet", (kwF [0, 3, 2, 1] [] (dfn 4 5 B_End_is_at))), ("Again", (kwF [0, 3, 2, 1] [] (dfn 4 5 B_End_is_at))), ("Take", (kwF [0, 3, 2, 1] [] (dfn 4 5 B_End_is_at))), ("Across", (kwF [0, 3, 2, 1] [] (dfn 4 5 B_End_is_at))), ("TakeAgain", (kwF [0, 3, 2, 1] [] (dfn 4 5 B_End_is_at)))] "is_at" 3 (v 0) (aCons (v 3) (aCons (v 4) (aCons (v 2) (aNil))))) (aNil))))) (sSeq (sIf (tst (bin (eqG true) (cal (reprN (reprI reprB)) (aCons (v 6) (aNil))) (cal (reprN (reprI reprB)) (aCons (lstE (aCons (v 5) (aCons (v 5) (aNil)))) (aNil))))) (sSeq (sRet (k (.bl false))) (sNil)) (sNil)) (sSeq (sFor (.nm 7) (iSeq (lstE (aCons (k (.int 0)) (aCons (k (.int 1)) (aCons (k (.int 2)) (aCons (k (.int 3)) (aCons (k (.int 4)) (aCons (k (.int 5)) (aCons (bin (powG) (k (.int 10)) (k (.int 30))) (aNil)))))))))) (sSeq (sFor (.nm 8) (iSeq (lstE (aCons (k (.int 0)) (aCons (k (.int 1)) (aCons (bin (powG) (k (.int 10)) (k (.int 40))) (aNil)))))) (sSeq (sSet 5 (cal F_law_fits (aCons (v 1) (aCons (una (fldG ["Ring"] "signs") (v 2)) (aCons (v 4) (aCons (v 3) (aCons (v 7) (aCons (v 8) (aNil))))))))) (sSeq (sIf (tst (bin (eqG true) (cal (reprN (reprI reprB)) (aCons (mtO [("End", F_End_fits), ("Quiet", F_End_fits), ("Again", F_End_fits), ("Take", F_End_fits), ("Across", F_End_fits), ("TakeAgain", F_End_fits)] "fits" (v 0) (aCons (v 2) (aCons (v 4) (aCons (v 3) (aCons (v 7) (aCons (v 8) (aNil))))))) (aNil))) (cal (reprN (reprI reprB)) (aCons (v 5) (aNil))))) (sSeq (sRet (k (.bl false))) (sNil)) (sNil)) (sNil)))) (sNil))) (sNil)))))) (sSeq (sSet 6 (mtPK [("End", (kwF [0, 1, 5, 4, 3, 2] [] (dfn 6 7 B_End_fits))), ("Quiet", (kwF [0, 1, 5, 4, 3, 2] [] (dfn 6 7 B_End_fits))), ("Again", (kwF [0, 1, 5, 4, 3, 2] [] (dfn 6 7 B_End_fits))), ("Take", (kwF [0, 1, 5, 4, 3, 2] [] (dfn 6 7 B_End_fits))), ("Across", (kwF [0, 1, 5, 4, 3, 2] [] (dfn 6 7 B_End_fits))), ("TakeAgain", (kwF [0, 1, 5, 4, 3, 2] [] (dfn 6 7 B_End_fits)))] "fits" 1 4 (v 0) (aCons (v 2) (aNil)) (aCons (k (.int 1)) (aCons (k (.int 2)) (aCons (v 3) (aCons (k (.int 0)) (aNil))))))) (sSeq (sRet (bin (eqG false) (v 6) (cal F_law_fits (aCons (v 1) (aCons (una (fldG ["Ring"] "signs") (v 2)) (aCons (k (.int 0)) (aCons (v 3) (aCons (k (.int 2)) (aCons (k (.int 1)) (aNil)))))))))) (sNil))))
theorem w_law_acts_right (T : TX P K mg) : FnFG P w K mg base 7 (He.ga K "_law_acts_right") F_law_acts_right := by
  obtain ⟨fd, F⟩ := T.says.def_ 38
  exact okFG (j := 6) (st := s_law_acts_right) F sc_law_acts_right rfl rfl (fun _ _ _ _ _ _ us hl => match us, hl with | [_, _, _, _], _ => rfl) (fun cdv A outer s H E hgd hr => qs_cons (qs_for (passes_of rfl) rfl (qi_seq (qe_tup (qa_cons (qk_int) (qa_cons (qk_int) (qa_nil))))) (qg_name 4 sc_law_acts_right.nd) (qs_cons (qs_set 5 (qe_callG (w_law_is_at T) hgd (hr.mono (by decide)) (T.glo "_law_is_at" (by decide +kernel)) (kp_law_is_at T) (qa_cons (qe_fld (fl_signs T) (qv 2)) (qa_cons (qv 4) (qa_cons (qv 3) (qa_cons (qe_ix (qv 1) (qk_int)) (qa_nil)))))) sc_law_acts_right.nd) (qs_cons (qs_set 6 (qe_lst (qa_cons (qe_mt (mt_End_fits_is_at_32 T) (hr.mono (by decide)) (qv 0) (qa_cons (qv 2) (qa_cons (qv 4) (qa_cons (qv 3) (qa_nil))))) (qa_cons (qe_mtKN (mk_law_acts_right_is_at_37 T) (hr.mono (by decide)) (qv 0) (qk_cons (qv 3) (qk_cons (qv 4) (qk_cons (qv 2) (qk_nil))))) (qa_nil)))) sc_law_acts_right.nd) (qs_cons (qs_if (qt_cmp (of_ne hr.units) (qe_blt (cf_reprN (cf_reprI (cf_repr hgd hr.units))) (T.free "repr" (by decide +kernel)) (qa_cons (qv 6) (qa_nil))) (qe_blt (cf_reprN (cf_reprI (cf_repr hgd hr.units))) (T.free "repr" (by decide +kernel)) (qa_cons (qe_lst (qa_cons (qv 5) (qa_cons (qv 5) (qa_nil)))) (qa_nil)))) (qs_cons (qs_ret (qk_bl)) (qs_nil)) (qs_nil)) (qs_cons (qs_for (passes_of rfl) rfl (qi_seq (qe_lst (qa_cons (qk_int) (qa_cons (qk_int) (qa_cons (qk_int) (qa_cons (qk_int) (qa_cons (qk_int) (qa_cons (qk_int) (qa_cons (qe_bin (of_pow) (qk_int) (qk_int)) (qa_nil)))))))))) (qg_name 7 sc_law_acts_right.nd) (qs_cons (qs_for (passes_of rfl) rfl (qi_seq (qe_lst (qa_cons (qk_int) (qa_cons (qk_int) (qa_cons (qe_bin (of_pow) (qk_int) (qk_int)) (qa_nil)))))) (qg_name 8 sc_law_acts_right.nd) (qs_cons (qs_set 5 (qe_callG (w_law_fits T) hgd (hr.mono (by decide)) (T.glo "_law_fits" (by decide +kernel)) (kp_law_fits T) (qa_cons (qv 1) (qa_cons (qe_fld (fl_signs T) (qv 2)) (qa_cons (qv 4) (qa_cons (qv 3) (qa_cons (qv 7) (qa_cons (qv 8) (qa_nil)))))))) sc_law_acts_right.nd) (qs_cons (qs_if (qt_cmp (of_ne hr.units) (qe_blt (cf_reprN (cf_reprI (cf_repr hgd hr.units))) (T.free "repr" (by decide +kernel)) (qa_cons (qe_mt (mt_law_acts_right_fits_35 T) (hr.mono (by decide)) (qv 0) (qa_cons (qv 2) (qa_cons (qv 4) (qa_cons (qv 3) (qa_cons (qv 7) (qa_cons (qv 8) (qa_nil))))))) (qa_nil))) (qe_blt (cf_reprN (cf_reprI (cf_repr hgd hr.units))) (T.free "repr" (by decide +kernel)) (qa_cons (qv 5) (qa_nil)))) (qs_cons (qs_ret (qk_bl)) (qs_nil)) (qs_nil)) (qs_nil)))) (qs_nil))) (qs_nil)))))) (qs_cons (qs_set 6 (qe_mtPK (mk_law_acts_right_fits_34 T) (hr.mono (by decide)) (qv 0) (qa_cons (qv 2) (qa_nil)) (qk_cons (qk_int) (qk_cons (qk_int) (qk_cons (qv 3) (qk_cons (qk_int) (qk_nil)))))) sc_law_acts_right.nd) (qs_cons (qs_ret (qe_cmp (of_eq hr.units) (qv 6) (qe_callG (w_law_fits T) hgd (hr.mono (by decide)) (T.glo "_law_fits" (by decide +kernel)) (kp_law_fits T) (qa_cons (qv 1) (qa_cons (qe_fld (fl_signs T) (qv 2)) (qa_cons (qk_int) (qa_cons (qv 3) (qa_cons (qk_int) (qa_cons (qk_int) (qa_nil)))))))))) (qs_nil))))
/-! law -/
theorem wk_AcrossD_initD_1_full_held_where (T : TX P K mg) : FnKO P w K mg base 4 (mO K "Across" "__init__") 1 ["full", "held", "where"] (kwF [0, 3, 2, 1] [.bl false] (dfn 4 4 B_AcrossD_initD)) := by
  obtain ⟨cdv, fd, SD, Fk⟩ := fk_AcrossD_initD (P := P) (w := w) (base := base) T
  exact supK1 ["full", "held", "where"] [0, 3, 2, 1] SD Fk (List.cons_ne_nil _ _) (rd_AcrossD_initD) (fun _ _ _ _ _ _ us ws its h1 h2 h3 => match us, ws, its, h1, h2, h3 with | [_], [_, _, _], [_], _, _, _ => ⟨_, rfl, rfl⟩)
theorem wk_End_pits_taken_1_pit_ring (T : TX P K mg) : FnKO P w K mg base 4 (mO K "End" "pits_taken") 1 ["pit", "ring"] (kwF [0, 2, 1] [] (dfn 3 3 B_End_pits_taken)) := by
  obtain ⟨fd, F⟩ := T.says.def_ 7
  exact okK0 (j := 3) (st := s_End_pits_taken) (m := 1) ["pit", "ring"] [0, 2, 1] F sc_End_pits_taken rfl rfl (fun _ _ _ _ _ _ us ws h1 h2 => match us, ws, h1, h2 with | [_], [_, _], _, _ => rfl) (b_End_pits_taken T)
theorem wk_Take_pits_taken_1_pit_ring (T : TX P K mg) : FnKO P w K mg base 5 (mO K "Take" "pits_taken") 1 ["pit", "ring"] (kwF [0, 2, 1] [] (dfn 3 3 B_Take_pits_taken)) := by
  obtain ⟨cdv, fd, SD, Fk⟩ := fk_Take_pits_taken (P := P) (w := w) (base := base) T
  exact supK0 ["pit", "ring"] [0, 2, 1] SD Fk (fun _ _ _ _ _ us ws h1 h2 => match us, ws, h1, h2 with | [_], [_, _], _, _ => rfl)
theorem wk_Across_pits_taken_1_pit_ring (T : TX P K mg) : FnKO P w K mg base 5 (mO K "Across" "pits_taken") 1 ["pit", "ring"] (kwF [0, 2, 1] [] (dfn 3 3 B_Across_pits_taken)) := by
  obtain ⟨fd, F⟩ := T.says.def_ 10
  exact okK0 (j := 4) (st := s_Across_pits_taken) (m := 1) ["pit", "ring"] [0, 2, 1] F sc_Across_pits_taken rfl rfl (fun _ _ _ _ _ _ us ws h1 h2 => match us, ws, h1, h2 with | [_], [_, _], _, _ => rfl) (b_Across_pits_taken T)
theorem mk_law_pits_taken_42 {X : Cx} (T : TX X.prog X.K X.mg) : MthK X 5 1 ["pit", "ring"] "pits_taken" [("End", (kwF [0, 2, 1] [] (dfn 3 3 B_End_pits_taken))), ("Quiet", (kwF [0, 2, 1] [] (dfn 3 3 B_End_pits_taken))), ("Again", (kwF [0, 2, 1] [] (dfn 3 3 B_End_pits_taken))), ("Take", (kwF [0, 2, 1] [] (dfn 3 3 B_Take_pits_taken))), ("Across", (kwF [0, 2, 1] [] (dfn 3 3 B_Across_pits_taken))), ("TakeAgain", (kwF [0, 2, 1] [] (dfn 3 3 B_Take_pits_taken)))] := by
  intro c F h
  have h := memLk h
  simp only [List.mem_cons, List.not_mem_nil, or_false, Prod.mk.injEq] at h
  rcases h with ⟨rfl, rfl⟩ | ⟨rfl, rfl⟩ | ⟨rfl, rfl⟩ | ⟨rfl, rfl⟩ | ⟨rfl, rfl⟩ | ⟨rfl, rfl⟩
  · exact ⟨T.cl "End" (by decide +kernel), _, T.meth "End" "pits_taken" (by decide +kernel), (wk_End_pits_taken_1_pit_ring T).mono (by decide)⟩
  · exact ⟨T.cl "Quiet" (by decide +kernel), _, T.meth "Quiet" "pits_taken" (by decide +kernel), (ihK (T.ih "Quiet" "pits_taken" "End" (by decide +kernel)) (wk_End_pits_taken_1_pit_ring T)).mono (by decide)⟩
  · exact ⟨T.cl "Again" (by decide +kernel), _, T.meth "Again" "pits_taken" (by decide +kernel), (ihK (T.ih "Again" "pits_taken" "End" (by decide +kernel)) (wk_End_pits_taken_1_pit_ring T)).mono (by decide)⟩
  · exact ⟨T.cl "Take" (by decide +kernel), _, T.meth "Take" "pits_taken" (by decide +kernel), (wk_Take_pits_taken_1_pit_ring T).mono (by decide)⟩
  · exact ⟨T.cl "Across" (by decide +kernel), _, T.meth "Across" "pits_taken" (by decide +kernel), (wk_Across_pits_taken_1_pit_ring T).mono (by decide)⟩
  · exact ⟨T.cl "TakeAgain" (by decide +kernel), _, T.meth "TakeAgain" "pits_taken" (by decide +kernel), (ihK (T.ih "TakeAgain" "pits_taken" "Take" (by decide +kernel)) (wk_Take_pits_taken_1_pit_ring T)).mono (by decide)⟩
theorem mt_law_pits_taken_43 {X : Cx} (T : TX X.prog X.K X.mg) : Mths X 5 "pits_taken" [("End", F_End_pits_taken), ("Quiet", F_End_pits_taken), ("Again", F_End_pits_taken), ("Take", F_Take_pits_taken), ("Across", F_Across_pits_taken), ("TakeAgain", F_Take_pits_taken)] := by
  intro c F h
  have h := memLk h
  simp only [List.mem_cons, List.not_mem_nil, or_false, Prod.mk.injEq] at h
  rcases h with ⟨rfl, rfl⟩ | ⟨rfl, rfl⟩ | ⟨rfl, rfl⟩ | ⟨rfl, rfl⟩ | ⟨rfl, rfl⟩ | ⟨rfl, rfl⟩
  · exact ⟨T.cl "End" (by decide +kernel), _, T.meth "End" "pits_taken" (by decide +kernel), (w_End_pits_taken T).mono (by decide)⟩
  · exact ⟨T.cl "Quiet" (by decide +kernel), _, T.meth "Quiet" "pits_taken" (by decide +kernel), (ihF (T.ih "Quiet" "pits_taken" "End" (by decide +kernel)) (w_End_pits_taken T)).mono (by decide)⟩
  · exact ⟨T.cl "Again" (by decide +kernel), _, T.meth "Again" "pits_taken" (by decide +kernel), (ihF (T.ih "Again" "pits_taken" "End" (by decide +kernel)) (w_End_pits_taken T)).mono (by decide)⟩
  · exact ⟨T.cl "Take" (by decide +kernel), _, T.meth "Take" "pits_taken" (by decide +kernel), (w_Take_pits_taken T).mono (by decide)⟩
  · exact ⟨T.cl "Across" (by decide +kernel), _, T.meth "Across" "pits_taken" (by decide +kernel), (w_Across_pits_taken T).mono (by decide)⟩
  · exact ⟨T.cl "TakeAgain" (by decide +kernel), _, T.meth "TakeAgain" "pits_taken" (by decide +kernel), (ihF (T.ih "TakeAgain" "pits_taken" "Take" (by decide +kernel)) (w_Take_pits_taken T)).mono (by decide)⟩
abbrev N_law : List Str := ["_law_script", "_law_pen_here", "_law_lap", "_law_signs_here", "_law_told", "_law_across", "_law_ground", "_law_made_here", "_law_here", "_law_due"]
theorem sc_law : FnScope N_law ["_law_script"] (defScope s_law) := ⟨rfl, rfl, rfl, by decide +kernel, rfl, by decide +kernel, by decide +kernel⟩
noncomputable def F_law : Fn := dfn 1 10 (sSeq (sSet 1 (cal F_law_pen (aCons (v 0) (aNil)))) (sSeq (sFor (.nm 2) (iR1 (aCons (k (.int 5)) (aNil))) (sSeq (sPar 3 4 (aCons (cal F_law_signs (aCons (v 1) (aNil))) (aCons (cal F_law_end (aCons (v 1) (aNil))) (aNil)))) (sSeq (sSet 5 (cal F_law_draw (aCons (v 1) (aCons (cal lenB (aCons (v 3) (aNil))) (aNil))))) (sSeq (sPar 6 7 (aCons (cal (mkF "Ring" F_RingD_initD) (aCons (v 3) (aCons (v 5) (aNil)))) (aCons (cal F_law_made (aCons (v 4) (aNil))) (aNil)))) (sSeq (sIf (tNo (tru (cal F_law_kind_right (aCons (v 4) (aCons (v 7) (aNil)))))) (sSeq (sRet (k (.bl false))) (sNil)) (sNil)) (sSeq (sFor (.nm 8) (iR1 (aCons (cal lenB (aCons (v 3) (aNil))) (aNil))) (sSeq (sIf (tNo (tru (cal F_law_acts_right (aCons (v 7) (aCons (v 4) (aCons (v 6) (aCons (v 8) (aNil)))))))) (sSeq (sRet (k (.bl false))) (sNil)) (sNil)) (sSeq (sSet 9 (cal F_law_taken (aCons (v 4) (aCons (v 5) (aCons (cal lenB (aCons (v 3) (aNil))) (aCons (v 8) (aNil))))))) (sSeq (sIf (tst (bin (eqG true) (cal (reprI reprB) (aCons (lstE (aCons (mtO [("End", F_End_pits_taken), ("Quiet", F_End_pits_taken), ("Again", F_End_pits_taken), ("Take", F_Take_pits_taken), ("Across", F_Across_pits_taken), ("TakeAgain", F_Take_pits_taken)] "pits_taken" (v 7) (aCons (v 6) (aCons (v 8) (aNil)))) (aCons (mtKN [("End", (kwF [0, 2, 1] [] (dfn 3 3 B_End_pits_taken))), ("Quiet", (kwF [0, 2, 1] [] (dfn 3 3 B_End_pits_taken))), ("Again", (kwF [0, 2, 1] [] (dfn 3 3 B_End_pits_taken))), ("Take", (kwF [0, 2, 1] [] (dfn 3 3 B_Take_pits_taken))), ("Across", (kwF [0, 2, 1] [] (dfn 3 3 B_Across_pits_taken))), ("TakeAgain", (kwF [0, 2, 1] [] (dfn 3 3 B_Take_pits_taken)))] "pits_taken" 2 (v 7) (aCons (v 8) (aCons (v 6) (aNil)))) (aNil)))) (aNil))) (cal (reprI reprB) (aCons (lstE (aCons (v 9) (aCons (v 9) (aNil)))) (aNil))))) (sSeq (sRet (k (.bl false))) (sNil)) (sNil)) (sNil))))) (sNil))))))) (sSeq (sRet (anE (bin (isX' false (isG false)) (una (fldG ["Across", "Again", "End", "Quiet", "Take", "TakeAgain"] "full") (cal (mkF "Across" F_AcrossD_initD) (aCons (k (.str "any")) (aCons (cal (mkF "Held" F_HeldD_initD) (aCons (k (.int 0)) (aNil))) (aNil))))) (k (.bl false))) (bin (isX' false (isG false)) (una (fldG ["Across", "Again", "End", "Quiet", "Take", "TakeAgain"] "full") (cal (ofLen 3 (mkF "Across" (kwF [0, 3, 2, 1] [.bl false] (dfn 4 4 B_AcrossD_initD)))) (aCons (k (.bl true)) (aCons (cal (mkF "Held" F_HeldD_initD) (aCons (k (.int 0)) (aNil))) (aCons (k (.str "any")) (aNil)))))) (k (.bl true))))) (sNil))))
theorem w_law (T : TX P K mg) : FnFG P w K mg base 9 (He.ga K "law") F_law := by
  obtain ⟨fd, F⟩ := T.says.def_ 39
  exact okFG (j := 8) (st := s_law) F sc_law rfl rfl (fun _ _ _ _ _ _ us hl => match us, hl with | [_], _ => rfl) (fun cdv A outer s H E hgd hr => qs_cons (qs_set 1 (qe_callG (w_law_pen T) hgd (hr.mono (by decide)) (T.glo "_law_pen" (by decide +kernel)) (kp_law_pen T) (qa_cons (qv 0) (qa_nil))) sc_law.nd) (qs_cons (qs_for (passes_of rfl) rfl (qi_range1 (T.free "range" (by decide +kernel)) (qa_cons (qk_int) (qa_nil))) (qg_name 2 sc_law.nd) (qs_cons (qs_par 3 4 rfl (qa_cons (qe_callG (w_law_signs T) hgd (hr.mono (by decide)) (T.glo "_law_signs" (by decide +kernel)) (kp_law_signs T) (qa_cons (qv 1) (qa_nil))) (qa_cons (qe_callG (w_law_end T) hgd (hr.mono (by decide)) (T.glo "_law_end" (by decide +kernel)) (kp_law_end T) (qa_cons (qv 1) (qa_nil))) (qa_nil))) sc_law.nd) (qs_cons (qs_set 5 (qe_callG (w_law_draw T) hgd (hr.mono (by decide)) (T.glo "_law_draw" (by decide +kernel)) (kp_law_draw T) (qa_cons (qv 1) (qa_cons (qe_blt cf_len (T.free "len" (by decide +kernel)) (qa_cons (qv 3) (qa_nil))) (qa_nil)))) sc_law.nd) (qs_cons (qs_par 6 7 rfl (qa_cons (qe_mk mk_frozen (T.mkr "Ring" (by decide +kernel)) (w_RingD_initD T) (hr.mono (by decide)) (T.glo "Ring" (by decide +kernel)) (qa_cons (qv 3) (qa_cons (qv 5) (qa_nil)))) (qa_cons (qe_callG (w_law_made T) hgd (hr.mono (by decide)) (T.glo "_law_made" (by decide +kernel)) (kp_law_made T) (qa_cons (qv 4) (qa_nil))) (qa_nil))) sc_law.nd) (qs_cons (qs_if (qt_not (qt_tru (qe_callG (w_law_kind_right T) hgd (hr.mono (by decide)) (T.glo "_law_kind_right" (by decide +kernel)) (kp_law_kind_right T) (qa_cons (qv 4) (qa_cons (qv 7) (qa_nil)))))) (qs_cons (qs_ret (qk_bl)) (qs_nil)) (qs_nil)) (qs_cons (qs_for (passes_of rfl) rfl (qi_range1 (T.free "range" (by decide +kernel)) (qa_cons (qe_blt cf_len (T.free "len" (by decide +kernel)) (qa_cons (qv 3) (qa_nil))) (qa_nil))) (qg_name 8 sc_law.nd) (qs_cons (qs_if (qt_not (qt_tru (qe_callG (w_law_acts_right T) hgd (hr.mono (by decide)) (T.glo "_law_acts_right" (by decide +kernel)) (kp_law_acts_right T) (qa_cons (qv 7) (qa_cons (qv 4) (qa_cons (qv 6) (qa_cons (qv 8) (qa_nil)))))))) (qs_cons (qs_ret (qk_bl)) (qs_nil)) (qs_nil)) (qs_cons (qs_set 9 (qe_callG (w_law_taken T) hgd (hr.mono (by decide)) (T.glo "_law_taken" (by decide +kernel)) (kp_law_taken T) (qa_cons (qv 4) (qa_cons (qv 5) (qa_cons (qe_blt cf_len (T.free "len" (by decide +kernel)) (qa_cons (qv 3) (qa_nil))) (qa_cons (qv 8) (qa_nil)))))) sc_law.nd) (qs_cons (qs_if (qt_cmp (of_ne hr.units) (qe_blt (cf_reprI (cf_repr hgd hr.units)) (T.free "repr" (by decide +kernel)) (qa_cons (qe_lst (qa_cons (qe_mt (mt_law_pits_taken_43 T) (hr.mono (by decide)) (qv 7) (qa_cons (qv 6) (qa_cons (qv 8) (qa_nil)))) (qa_cons (qe_mtKN (mk_law_pits_taken_42 T) (hr.mono (by decide)) (qv 7) (qk_cons (qv 8) (qk_cons (qv 6) (qk_nil)))) (qa_nil)))) (qa_nil))) (qe_blt (cf_reprI (cf_repr hgd hr.units)) (T.free "repr" (by decide +kernel)) (qa_cons (qe_lst (qa_cons (qv 9) (qa_cons (qv 9) (qa_nil)))) (qa_nil)))) (qs_cons (qs_ret (qk_bl)) (qs_nil)) (qs_nil)) (qs_nil))))) (qs_nil))))))) (qs_cons (qs_ret (qe_and (qe_cmp (of_isB (of_is)) (qe_fld (fl_full T) (qe_mk mk_frozen (T.mkr "Across" (by decide +kernel)) (w_AcrossD_initD T) (hr.mono (by decide)) (T.glo "Across" (by decide +kernel)) (qa_cons (qk_str) (qa_cons (qe_mk mk_frozen (T.mkr "Held" (by decide +kernel)) (w_HeldD_initD T) (hr.mono (by decide)) (T.glo "Held" (by decide +kernel)) (qa_cons (qk_int) (qa_nil))) (qa_nil))))) (qk_bl)) (qe_one (qe_cmp (of_isB (of_is)) (qe_fld (fl_full T) (qe_mkK mk_frozen (T.mkr "Across" (by decide +kernel)) (wk_AcrossD_initD_1_full_held_where T) (hr.mono (by decide)) (T.glo "Across" (by decide +kernel)) (qk_cons (qk_bl) (qk_cons (qe_mk mk_frozen (T.mkr "Held" (by decide +kernel)) (w_HeldD_initD T) (hr.mono (by decide)) (T.glo "Held" (by decide +kernel)) (qa_cons (qk_int) (qa_nil))) (qk_cons (qk_str) (qk_nil)))))) (qk_bl))))) (qs_nil))))
end
end K08
set_option Elab.async false
set_option linter.all false
set_option maxRecDepth 100000
set_option maxHeartbeats 4000000
/-! plain runs, by what is asked behind: goals of one piece, stepped one after the other -/
namespace PVZ
open PySem PV
abbrev _root_.PV.XQ := String → List (String × D) → Sto → Prop
/-- what it speaks of is not rewritten -/
inductive _root_.PV.Tag {α : Type} (a : α) : Type where
  | mk
def Wp {α : Type} (o : Out α) (Q : α → Sto → Prop) (E : XQ) (_ : Tag (Q, E) := .mk) : Prop := match o with
  | .ok a S => Q a S
  | .ex c fs S => E c fs S
  | .no => False
/-- code: it goes on, returns, breaks, continues, raises -/
def Ws (o : Out Fl) (N : Ev → Sto → Prop) (R : D → Sto → Prop) (B C : Ev → Sto → Prop) (E : XQ) (_ : Tag (N, R, B, C, E) := .mk) : Prop := match o with
  | .ok (.nx ρ) S => N ρ S
  | .ok (.rt d) S => R d S
  | .ok (.bk ρ) S => B ρ S
  | .ok (.ct ρ) S => C ρ S
  | .ex c fs S => E c fs S
  | .no => False
section
variable {α β : Type} {o : Out α} {Q Q' : α → Sto → Prop} {E E' : XQ}
theorem Wp.imp (h : Wp o Q E) (i : ∀ a S, Q a S → Q' a S) (j : ∀ c fs S, E c fs S → E' c fs S) : Wp o Q' E' := by
  match o, h with
  | .ok a S, h => exact i a S h
  | .ex c fs S, h => exact j c fs S h
  | .no, h => exact h
theorem wp_ok {a : α} {S : Sto} (h : Q a S) : Wp (.ok a S) Q E := h
theorem wp_eq {a : α} {S : Sto} (e : o = .ok a S) (h : Q a S) : Wp o Q E := by rw [e]; exact h
theorem Wp.of {o : Out α} (h : Wp o Q fun _ _ _ => False) : ∃ a S, o = .ok a S ∧ Q a S := by
  match o, h with
  | .ok a S, h => exact ⟨a, S, rfl, h⟩
theorem wp_bind {k : α → Sto → Out β} {R : β → Sto → Prop} (h : Wp o (fun a S => Wp (k a S) R E) E) : Wp (o.bind k) R E := by
  match o, h with
  | .ok a S, h => exact h
  | .ex c fs S, h => exact h
  | .no, h => exact h
theorem ws_bind {k : α → Sto → Out Fl} {N : Ev → Sto → Prop} {R : D → Sto → Prop} {B C : Ev → Sto → Prop} (h : Wp o (fun a S => Ws (k a S) N R B C E) E) : Ws (o.bind k) N R B C E := by
  match o, h with
  | .ok a S, h => exact h
  | .ex c fs S, h => exact h
  | .no, h => exact h
theorem Ws.imp {o : Out Fl} {N N' : Ev → Sto → Prop} {R R' : D → Sto → Prop} {B B' C C' : Ev → Sto → Prop} (h : Ws o N R B C E) (i : ∀ ρ S, N ρ S → N' ρ S) (j : ∀ d S, R d S → R' d S) (b : ∀ ρ S, B ρ S → B' ρ S) (c : ∀ ρ S, C ρ S → C' ρ S) (e : ∀ c fs S, E c fs S → E' c fs S) : Ws o N' R' B' C' E' := by
  match o, h with
  | .ok (.nx _) _, h => exact i _ _ h
  | .ok (.rt _) _, h => exact j _ _ h
  | .ok (.bk _) _, h => exact b _ _ h
  | .ok (.ct _) _, h => exact c _ _ h
  | .ex _ _ _, h => exact e _ _ _ h
  | .no, h => exact h
end
/-! ### steps of what is asked -/
theorem ex1 {α : Type} {p q : α → Prop} {a : α} (h : p a) (h2 : q a) : ∃ a, p a ∧ q a := ⟨a, h, h2⟩
/-! ### expressions -/
section
variable {ρ : Ev} {S : Sto} {Q : D → Sto → Prop} {E : XQ} {a b c : ME} {d : D}
/-! tests -/
variable {t u : MT}
theorem wp_t {α : Type} {x : Bool} {o o' : Out α} {Q : α → Sto → Prop} (h : x = true) (q : Wp o Q E) : Wp (if x = true then o else o') Q E := by rw [if_pos h]; exact q
theorem wp_f {α : Type} {x : Bool} {o o' : Out α} {Q : α → Sto → Prop} (h : x = false) (q : Wp o' Q E) : Wp (if x = true then o else o') Q E := by rw [if_neg (by rw [h]; decide)]; exact q
/-! displays -/
/-! methods -/
theorem wp_ofLen {n : Nat} {F : Fn} {ds : List D} (h : ds.length = n) (q : Wp (F ds S) Q E) : Wp (ofLen n F ds S) Q E := by
  unfold ofLen
  rw [if_pos h]
  exact q
theorem wp_kw {idx : List Nat} {dds ds es : List D} {F : Fn} (h : pickL idx (ds ++ dds) = es) (q : Wp (F es S) Q E) : Wp (kwF idx dds F ds S) Q E := by
  unfold kwF
  rw [h]
  exact q
/-! slices -/
/-! numbers -/
theorem wp_mod {i j : Int} (h : 0 < j) (q : Q (.int (i % j)) S) : Wp (modG (.int i) (.int j) S) Q E := by
  have e : modG (.int i) (.int j) S = .ok (.int (i % j)) S := if_pos h
  rw [e]
  exact q
theorem wp_pow {i j : Int} (h : powOk i j = true) (q : Q (.int (i ^ j.toNat)) S) : Wp (powG (.int i) (.int j) S) Q E := by
  have e : powG (.int i) (.int j) S = .ok (.int (i ^ j.toNat)) S := if_pos h
  rw [e]
  exact q
theorem wp_eqv {x y : D} {e n : Bool} (h : eqD x y = some e) (q : Q (.bl (n ^^ e)) S) : Wp (eqG n x y S) Q E := by
  unfold eqG
  rw [h]
  exact q
theorem wp_ixl {xs : List D} {i : Int} {x : D} (h : L2.atI xs i = some x) (q : Q x S) : Wp (ixG (.lst xs) (.int i) S) Q E := by
  unfold ixG
  simp only [h]
  exact q
/-! instances -/
theorem wp_fld {cs : List String} {f : String} {x y : D} {c : String} {fs : List (String × D)} (h1 : insOf S x = some (c, fs)) (h2 : cs.contains c = true) (h3 : fs.lookup f = some y) (q : Q y S) : Wp (fldG cs f x S) Q E := by
  unfold fldG
  simp only [h1, h2, h3, if_true]
  exact q
theorem wp_mkF {c : String} {F : Fn} {ds : List D} (h : Wp (F (.loc S.length :: ds) (S ++ [.ins c []])) (fun d S2 => d = .non ∧ ∃ fs, S2[S.length]? = some (.ins c fs) ∧ Wp (gcO S (.ok (.obj c fs) (S2.set S.length .dead))) Q E) (fun x fs S2 => Wp (gcO S (.ex x fs S2)) Q E)) : Wp (mkF c F ds S) Q E := by
  unfold mkF
  generalize F (.loc S.length :: ds) (S ++ [Cell.ins c []]) = o at h ⊢
  match o, h with
  | .ok d S2, h =>
    obtain ⟨rfl, fs, h1, h2⟩ := h
    simp only [h1, if_true]
    exact h2
  | .ex _ _ _, h => exact h
theorem wp_mkF_of {c : String} {F : Fn} {ds : List D} {fs : List (String × D)} (hF : F (.loc S.length :: ds) (S ++ [Cell.ins c []]) = .ok .non ((S ++ [Cell.ins c []]).set S.length (Cell.ins c fs))) (hd : belowf S.length fs = true) (q : Q (.obj c fs) S) : Wp (mkF c F ds S) Q E := by
  refine wp_mkF (wp_eq hF ⟨rfl, fs, by simp, ?_⟩)
  have e : ((S ++ [Cell.ins c []]).set S.length (Cell.ins c fs)).set S.length Cell.dead = S ++ [Cell.dead] := by simp
  rw [e, gc_app (by simpa [D.und] using hd)]
  exact q
theorem mkF_of {c : String} {F : Fn} {ds : List D} {fs : List (String × D)} (hF : F (.loc S.length :: ds) (S ++ [Cell.ins c []]) = .ok .non ((S ++ [Cell.ins c []]).set S.length (Cell.ins c fs))) (hd : belowf S.length fs = true) : mkF c F ds S = .ok (.obj c fs) S := by
  obtain ⟨a, S', e, rfl, rfl⟩ := Wp.of (wp_mkF_of (Q := fun d S' => d = .obj c fs ∧ S' = S) hF hd ⟨rfl, rfl⟩)
  exact e
theorem wp_isi {ans : Ty → Option Bool} {cls : D → Bool} {ds : List D} {b : Bool} (h : isiF ans cls ds S = .ok (.bl b) S) (q : Q (.bl b) S) : Wp (isiF ans cls ds S) Q E := wp_eq h q
theorem wp_isiA {Ts cs : List String} (h : Wp (a ρ S) (fun x S1 => ∃ t, tyD S1 x = some t ∧ (match t with | .b n => Q (.bl (Ts.any fun T => subT n T)) S1 | .c n => cs.contains n = true ∧ Q (.bl false) S1)) E) : Wp (isiA Ts cs a ρ S) Q E := wp_bind (h.imp (fun x S1 q => by
  obtain ⟨t, e, q⟩ := q
  rw [e]
  match t, q with
  | .b n, q => exact q
  | .c n, q =>
    simp only [q.1, if_true]
    exact q.2) fun _ _ _ q => q)
end
/-! ### code -/
section
variable {ρ : Ev} {S : Sto} {N : Ev → Sto → Prop} {R : D → Sto → Prop} {B C : Ev → Sto → Prop} {E : XQ} {a b : MS} {m o : ME} {t : MT}
theorem ws_t {x : Bool} {o o' : Out Fl} (h : x = true) (q : Ws o N R B C E) : Ws (if x = true then o else o') N R B C E := by rw [if_pos h]; exact q
theorem ws_f {x : Bool} {o o' : Out Fl} (h : x = false) (q : Ws o' N R B C E) : Ws (if x = true then o else o') N R B C E := by rw [if_neg (by rw [h]; decide)]; exact q
theorem ws_fld {cs : List String} {f : String} (h : Wp (m ρ S) (fun y S1 => Wp (o ρ S1) (fun x S2 => ∃ n c fs, x = .loc n ∧ S2[n]? = some (.ins c fs) ∧ (cs.contains c = true ∧ fs.length < 1000) ∧ N ρ (S2.set n (.ins c (putD f y fs)))) E) E) : Ws (sFldS cs f o m ρ S) N R B C E := ws_bind (h.imp (fun y S1 q => ws_bind (q.imp (fun x S2 q => by
  obtain ⟨n, c, fs, rfl, e1, e2, q⟩ := q
  simp only [e1]
  rw [if_pos e2]
  exact q) fun _ _ _ q => q)) fun _ _ _ q => q)
/-! loops, by what stands at each turn -/
theorem ws_forL {T : Tg} {g : Option Nat} {all : List D} (I : Nat → Ev → Sto → Prop) (hg : ∀ j ρ S, I j ρ S → Gd g all S) : ∀ (xs : List D) (i : Nat) (ρ : Ev) (S : Sto), (∀ j x, xs[j]? = some x → ∀ ρ S, I (i + j) ρ S → ∃ ρ1, setT T x ρ = some ρ1 ∧ Ws (b ρ1 S) (I (i + j + 1)) R N (I (i + j + 1)) E) → (∀ ρ S, I (i + xs.length) ρ S → N ρ S) → I i ρ S → Ws (forL T b g all xs ρ S) N R B C E
  | [], i, ρ, S, _, hN, h => by
    unfold forL
    rw [if_pos (hg _ _ _ h)]
    exact hN _ _ h
  | x :: xs, i, ρ, S, hs, hN, h => by
    unfold forL
    rw [if_pos (hg _ _ _ h)]
    obtain ⟨ρ1, e, q⟩ := hs 0 x rfl ρ S h
    simp only [e]
    have ih : ∀ ρ' S', I (i + 1) ρ' S' → Ws (forL T b g all xs ρ' S') N R B C E := fun ρ' S' h' => ws_forL I hg xs (i + 1) ρ' S' (fun j y hy ρ S z => by
      have := hs (j + 1) y (by simpa using hy) ρ S (by rw [show i + (j + 1) = i + 1 + j by omega]; exact z)
      rw [show i + (j + 1) = i + 1 + j by omega] at this
      exact this) (fun ρ S z => hN ρ S (by rw [List.length_cons, show i + (xs.length + 1) = i + 1 + xs.length by omega]; exact z)) h'
    match b ρ1 S, q with
    | .ok (.nx _) _, q => exact ih _ _ q
    | .ok (.rt _) _, q => exact q
    | .ok (.bk _) _, q => exact q
    | .ok (.ct _) _, q => exact ih _ _ q
    | .ex _ _ _, q => exact q
    | .no, q => exact q.elim
theorem ws_for {T : Tg} {it : MI} (I : Nat → Ev → Sto → Prop) (h : Wp (it ρ S) (fun p S1 => (∀ j ρ S, I j ρ S → Gd p.2 p.1 S) ∧ I 0 ρ S1 ∧ (∀ j x, p.1[j]? = some x → ∀ ρ S, I j ρ S → ∃ ρ1, setT T x ρ = some ρ1 ∧ Ws (b ρ1 S) (I (j + 1)) R N (I (j + 1)) E) ∧ (∀ ρ S, I p.1.length ρ S → N ρ S)) E) : Ws (sFor T it b ρ S) N R B C E :=
  ws_bind (h.imp (fun p S1 q => by
    obtain ⟨h1, h2, h3, h4⟩ := q
    refine ws_forL I h1 p.1 0 ρ S1 (fun j x hx => ?_) (fun ρ S z => h4 ρ S (by simpa using z)) h2
    rw [Nat.zero_add]
    exact h3 j x hx) fun _ _ _ q => q)
theorem ws_whl (I : Nat → Ev → Sto → Prop) (n : Nat) (h0 : I n ρ S) (hs : ∀ m ρ S, I m ρ S → Wp (t ρ S) (fun c S1 => (c = true → Ws (b ρ S1) (fun ρ' S' => ∃ m', m' < m ∧ I m' ρ' S') R N (fun ρ' S' => ∃ m', m' < m ∧ I m' ρ' S') E) ∧ (c = false → N ρ S1)) E) : Ws (sWhl t b ρ S) N R B C E := by
  have main : ∀ m ρ S, I m ρ S → ∃ n, Ws (whL t b n ρ S) N R B C E := by
    intro m
    induction m using Nat.strongRecOn with
    | ind m ih =>
      intro ρ S h
      have q := hs m ρ S h
      match et : t ρ S, q with
      | .ok false S1, q => exact ⟨1, by unfold whL; rw [et]; exact q.2 rfl⟩
      | .ex _ _ _, q => exact ⟨1, by unfold whL; rw [et]; exact q⟩
      | .no, q => exact q.elim
      | .ok true S1, q =>
        have q := q.1 rfl
        match eb : b ρ S1, q with
        | .ok (.nx ρ') S2, ⟨m', hm, q⟩ =>
          obtain ⟨n, hn⟩ := ih m' hm ρ' S2 q
          exact ⟨n + 1, by unfold whL; rw [et]; show Ws ((b ρ S1).bind _) _ _ _ _ _; rw [eb]; exact hn⟩
        | .ok (.ct ρ') S2, ⟨m', hm, q⟩ =>
          obtain ⟨n, hn⟩ := ih m' hm ρ' S2 q
          exact ⟨n + 1, by unfold whL; rw [et]; show Ws ((b ρ S1).bind _) _ _ _ _ _; rw [eb]; exact hn⟩
        | .ok (.rt d) S2, q => exact ⟨1, by unfold whL; rw [et]; show Ws ((b ρ S1).bind _) _ _ _ _ _; rw [eb]; exact q⟩
        | .ok (.bk ρ') S2, q => exact ⟨1, by unfold whL; rw [et]; show Ws ((b ρ S1).bind _) _ _ _ _ _; rw [eb]; exact q⟩
        | .ex c fs S2, q => exact ⟨1, by unfold whL; rw [et]; show Ws ((b ρ S1).bind _) _ _ _ _ _; rw [eb]; exact q⟩
        | .no, q => exact q.elim
  obtain ⟨n, hn⟩ := main n ρ S h0
  have ne : whL t b n ρ S ≠ .no := fun e => by rw [e] at hn; exact hn
  rw [whl_ok rfl ne]
  exact hn
theorem wp_lcL {T : Tg} {e : ME} {g : Option Nat} {all : List D} (I : Nat → List D → Sto → Prop) (hg : ∀ j acc S, I j acc S → Gd g all S) : ∀ (xs : List D) (i : Nat) (acc : List D) (S : Sto), (∀ j x, xs[j]? = some x → ∀ acc S, I (i + j) acc S → ∃ ρ1, setT T x ρ = some ρ1 ∧ Wp (t ρ1 S) (fun c S1 => (c = true → Wp (e ρ1 S1) (fun d S2 => I (i + j + 1) (acc ++ [d]) S2) fun _ _ _ => False) ∧ (c = false → I (i + j + 1) acc S1)) fun _ _ _ => False) → I i acc S → ∃ ds S', lcL T t e g all ρ xs S = .ok ds S' ∧ I (i + xs.length) (acc ++ ds) S'
  | [], i, acc, S, _, h => by
    refine ⟨[], S, ?_, by simpa using h⟩
    unfold lcL
    rw [if_pos (hg _ _ _ h)]
  | x :: xs, i, acc, S, hs, h => by
    obtain ⟨ρ1, e1, q⟩ := hs 0 x rfl acc S h
    have nxt : ∀ acc' S', I (i + 1) acc' S' → ∃ ds S'', lcL T t e g all ρ xs S' = .ok ds S'' ∧ I (i + (x :: xs).length) (acc' ++ ds) S'' := fun acc' S' h' => by
      have := wp_lcL I hg xs (i + 1) acc' S' (fun j y hy acc S z => by
        have := hs (j + 1) y (by simpa using hy) acc S (by rw [show i + (j + 1) = i + 1 + j by omega]; exact z)
        rw [show i + (j + 1) = i + 1 + j by omega] at this
        exact this) h'
      rw [List.length_cons, show i + (xs.length + 1) = i + 1 + xs.length by omega]
      exact this
    match et : t ρ1 S, q with
    | .ok true S1, q =>
      obtain ⟨d, S2, ed, q⟩ := Wp.of (q.1 rfl)
      obtain ⟨ds, S3, el, q⟩ := nxt _ _ q
      refine ⟨d :: ds, S3, ?_, by simpa using q⟩
      unfold lcL
      rw [if_pos (hg _ _ _ h)]
      simp only [e1, et, ed, el]
    | .ok false S1, q =>
      obtain ⟨ds, S3, el, q⟩ := nxt _ _ (q.2 rfl)
      refine ⟨ds, S3, ?_, by simpa using q⟩
      unfold lcL
      rw [if_pos (hg _ _ _ h)]
      simp only [e1, et, el]
theorem wp_lcO {T : Tg} {it : MI} {e : ME} {Q : List D → Sto → Prop} (I : Nat → List D → Sto → Prop) (h : Wp (it ρ S) (fun p S1 => p.1.length ≤ 1000 ∧ (∀ j acc S, I j acc S → Gd p.2 p.1 S) ∧ I 0 [] S1 ∧ (∀ j x, p.1[j]? = some x → ∀ acc S, I j acc S → ∃ ρ1, setT T x (wipeD ρ T.slots) = some ρ1 ∧ Wp (t ρ1 S) (fun c S1 => (c = true → Wp (e ρ1 S1) (fun d S2 => I (j + 1) (acc ++ [d]) S2) fun _ _ _ => False) ∧ (c = false → I (j + 1) acc S1)) fun _ _ _ => False) ∧ ∀ ds S, I p.1.length ds S → Q ds S) E) : Wp (lcO T it t e ρ S) Q E :=
  wp_bind (h.imp (fun p S1 q => by
    obtain ⟨h0, h1, h2, h3, h4⟩ := q
    rw [if_pos h0]
    obtain ⟨ds, S', e, q⟩ := wp_lcL (T := T) (t := t) (e := e) (ρ := wipeD ρ T.slots) I h1 p.1 0 [] S1 (fun j x hx => by rw [Nat.zero_add]; exact h3 j x hx) h2
    exact wp_eq e (h4 _ _ (by simpa using q))) fun _ _ _ q => q)
theorem wp_lcE {T : Tg} {it : MI} {e : ME} {Q : D → Sto → Prop} (h : Wp (lcO T it t e ρ S) (fun ds S1 => Q (.lst ds) S1) E) : Wp (lcE T it t e ρ S) Q E := wp_bind h
/-! what is walked -/
end
/-! ### defs -/
section
variable {S : Sto} {Q : D → Sto → Prop} {E : XQ}
/-- what is asked of a def's end, behind the gc -/
def Gq (S : Sto) (Q : D → Sto → Prop) (E : XQ) (d : D) (S' : Sto) : Prop := Wp (gcO S (.ok d S')) Q E
def Gx (S : Sto) (Q : D → Sto → Prop) (E : XQ) : XQ := fun c fs S' => Wp (gcO S (.ex c fs S')) Q E
theorem gq_len {d : D} {S' : Sto} (h : S'.length = S.length) (q : Q d S') : Gq S Q E d S' := by
  unfold Gq
  rw [gc_len h]
  exact q
theorem gq_same {d : D} (q : Q d S) : Gq S Q E d S := gq_len rfl q
theorem gq_app {d : D} {T : Sto} (h : d.und S.length = true) (q : Q d S) : Gq S Q E d (S ++ T) := by
  unfold Gq
  rw [gc_app h]
  exact q
theorem wp_dfn {np n : Nat} {b : MS} {ds : List D} (hl : ds.length = np) (h : Ws (b (ds.map some ++ List.replicate (n - np) none) S) (fun _ S' => Gq S Q E .non S') (Gq S Q E) (fun _ _ => False) (fun _ _ => False) (Gx S Q E)) : Wp (dfn np n b ds S) Q E := by
  unfold dfn
  rw [if_pos hl]
  match b (ds.map some ++ List.replicate (n - np) none) S, h with
  | .ok (.nx _) _, h => exact h
  | .ok (.rt _) _, h => exact h
  | .ex _ _ _, h => exact h
end
end PVZ
set_option Elab.async false
set_option linter.all false
set_option maxRecDepth 100000
set_option maxHeartbeats 4000000
/-! the steps of Q0 as equations -/
namespace PVZ
open PySem PV
theorem Wp_Q {α : Type} {o : Out α} {Q Q' : α → Sto → Prop} {E : XQ} (h : ∀ a S, Q a S = Q' a S) : Wp o Q E = Wp o Q' E := by
  have e : Q = Q' := funext fun a => funext fun S => h a S
  subst e
  rfl
section
variable {α β : Type} {E : XQ} {S : Sto} {ρ : Ev}
theorem Q_bind {o : Out α} {k : α → Sto → Out β} {Q : β → Sto → Prop} : Wp (o.bind k) Q E = Wp o (fun a S => Wp (k a S) Q E) E := by cases o <;> rfl
theorem Q_sbind {o : Out α} {k : α → Sto → Out Fl} {N : Ev → Sto → Prop} {R : D → Sto → Prop} {B C : Ev → Sto → Prop} : Ws (o.bind k) N R B C E = Wp o (fun a S => Ws (k a S) N R B C E) E := by cases o <;> rfl
theorem Q_ok {a : α} {Q : α → Sto → Prop} : Wp (.ok a S) Q E = Q a S := rfl
theorem Q_ex {c : String} {fs : List (String × D)} {Q : α → Sto → Prop} : Wp (.ex c fs S) Q E = E c fs S := rfl
variable {Q : D → Sto → Prop} {d x : D} {o : Option D} {a b c m : ME} {ms : MA} {t u : MT}
theorem Q_v0 : Wp (v 0 (some d :: ρ) S) Q E = Q d S := rfl
theorem Q_vs {n : Nat} : Wp (v (n + 1) (o :: ρ) S) Q E = Wp (v n ρ S) Q E := by
  unfold v
  rw [List.getElem?_cons_succ]
theorem Q_k : Wp (k d ρ S) Q E = Q d S := rfl
theorem Q_bin {g : G2} : Wp (bin g a b ρ S) Q E = Wp (a ρ S) (fun x S1 => Wp (b ρ S1) (fun y S2 => Wp (g x y S2) Q E) E) E := by
  unfold bin
  rw [Q_bind]
  exact Wp_Q fun _ _ => Q_bind
theorem Q_una {g : G1} : Wp (una g a ρ S) Q E = Wp (a ρ S) (fun x S1 => Wp (g x S1) Q E) E := Q_bind
theorem Q_cal {F : Fn} : Wp (cal F ms ρ S) Q E = Wp (ms ρ S) (fun ds S1 => Wp (F ds S1) Q E) E := Q_bind
theorem Q_nil {Q : List D → Sto → Prop} : Wp (aNil ρ S) Q E = Q [] S := rfl
theorem Q_cons {Q : List D → Sto → Prop} : Wp (aCons a ms ρ S) Q E = Wp (a ρ S) (fun x S1 => Wp (ms ρ S1) (fun ds S2 => Q (x :: ds) S2) E) E := by
  unfold aCons
  rw [Q_bind]
  exact Wp_Q fun _ _ => Q_bind
theorem Q_star {Q : List D → Sto → Prop} : Wp (aStar a ms ρ S) Q E = Wp (a ρ S) (fun x S1 => Wp (match x with
  | .lst xs => (ms ρ S1).bind fun ds S2 => .ok (xs ++ ds) S2
  | .tup xs => (ms ρ S1).bind fun ds S2 => .ok (xs ++ ds) S2
  | .loc n => match S1[n]? with
    | some (.lst xs) => (ms ρ S1).bind fun ds S2 => .ok (xs ++ ds) S2
    | _ => .no
  | _ => .no) Q E) E := Q_bind
/-! tests -/
variable {P : Bool → Sto → Prop}
theorem Q_tst : Wp (tst a ρ S) P E = Wp (a ρ S) (fun d S1 => Wp (match d with | .bl b => Out.ok b S1 | _ => .no) P E) E := Q_bind
theorem Q_tru : Wp (tru a ρ S) P E = Wp (a ρ S) (fun d S1 => Wp (match truD d with | some b => Out.ok b S1 | none => .no) P E) E := Q_bind
theorem Q_no : Wp (tNo t ρ S) P E = Wp (t ρ S) (fun c S1 => P (!c) S1) E := Q_bind
theorem Q_an : Wp (tAn t u ρ S) P E = Wp (t ρ S) (fun c S1 => Wp (if c = true then u ρ S1 else .ok false S1) P E) E := Q_bind
theorem Q_or : Wp (tOr t u ρ S) P E = Wp (t ρ S) (fun c S1 => Wp (if c = true then .ok true S1 else u ρ S1) P E) E := Q_bind
theorem Q_ifE : Wp (ifE t a b ρ S) Q E = Wp (t ρ S) (fun c S1 => Wp (if c = true then a ρ S1 else b ρ S1) Q E) E := Q_bind
def _root_.PV.anD (b : ME) (ρ : Ev) (d : D) (S1 : Sto) : Out D := match d with
  | .bl c => if c = true then b ρ S1 else .ok (.bl false) S1
  | _ => .no
def _root_.PV.orD (b : ME) (ρ : Ev) (d : D) (S1 : Sto) : Out D := match d with
  | .bl c => if c = true then .ok (.bl true) S1 else b ρ S1
  | _ => .no
theorem Q_anE : Wp (anE a b ρ S) Q E = Wp (a ρ S) (fun d S1 => Wp (anD b ρ d S1) Q E) E := by
  unfold anE
  rw [Q_bind]
  refine Wp_Q fun d S1 => ?_
  cases d with
  | bl c => cases c <;> rfl
  | _ => rfl
theorem Q_orE : Wp (orE a b ρ S) Q E = Wp (a ρ S) (fun d S1 => Wp (orD b ρ d S1) Q E) E := by
  unfold orE
  rw [Q_bind]
  refine Wp_Q fun d S1 => ?_
  cases d with
  | bl c => cases c <;> rfl
  | _ => rfl
theorem Q_anD {c : Bool} : Wp (anD b ρ (.bl c) S) Q E = Wp (if c = true then b ρ S else .ok (.bl false) S) Q E := rfl
theorem Q_orD {c : Bool} : Wp (orD b ρ (.bl c) S) Q E = Wp (if c = true then .ok (.bl true) S else b ρ S) Q E := rfl
theorem Q_noE : Wp (noE a ρ S) Q E = Wp (a ρ S) (fun d S1 => Wp (match d with | .bl b => .ok (.bl (!b)) S1 | _ => .no) Q E) E := Q_bind
def _root_.PV.chD (g' : G2) (y : D) (c : ME) (ρ : Ev) (z : D) (S3 : Sto) : Out D := match z with
  | .bl t => if t = true then (c ρ S3).bind fun u S4 => g' y u S4 else .ok (.bl false) S3
  | _ => .no
theorem Q_chn {g g' : G2} : Wp (chn g g' a b c ρ S) Q E = Wp (a ρ S) (fun x S1 => Wp (b ρ S1) (fun y S2 => Wp (g x y S2) (fun z S3 => Wp (chD g' y c ρ z S3) Q E) E) E) E := by
  unfold chn
  rw [Q_bind]
  refine Wp_Q fun x S1 => Q_bind.trans (Wp_Q fun y S2 => Q_bind.trans (Wp_Q fun z S3 => ?_))
  cases z with
  | bl c => cases c <;> rfl
  | _ => rfl
theorem Q_chD {g' : G2} {y : D} {t : Bool} : Wp (chD g' y c ρ (.bl t) S) Q E = Wp (if t = true then (c ρ S).bind fun u S4 => g' y u S4 else .ok (.bl false) S) Q E := rfl
theorem Q_t {o o' : Out α} {Q : α → Sto → Prop} : Wp (if true = true then o else o') Q E = Wp o Q E := rfl
theorem Q_f {o o' : Out α} {Q : α → Sto → Prop} : Wp (if false = true then o else o') Q E = Wp o' Q E := rfl
theorem Q_T {h : Decidable True} {o o' : Out α} {Q : α → Sto → Prop} : Wp (@ite _ True h o o') Q E = Wp o Q E := by rw [if_pos trivial]
theorem Q_F {h : Decidable False} {o o' : Out α} {Q : α → Sto → Prop} : Wp (@ite _ False h o o') Q E = Wp o' Q E := by rw [if_neg not_false]
theorem wp_dt {p : Prop} [Decidable p] {o o' : Out α} {Q : α → Sto → Prop} (h : p) (q : Wp o Q E) : Wp (if decide p = true then o else o') Q E := wp_t (decide_eq_true h) q
theorem wp_df {p : Prop} [Decidable p] {o o' : Out α} {Q : α → Sto → Prop} (h : ¬ p) (q : Wp o' Q E) : Wp (if decide p = true then o else o') Q E := wp_f (decide_eq_false h) q
/-! displays, methods -/
def _root_.PV.tupQ (ds : List D) (S1 : Sto) : Out D := if ds.length ≤ 1000 then .ok (.tup ds) S1 else .no
def _root_.PV.lstQ (ds : List D) (S1 : Sto) : Out D := if ds.length ≤ 1000 then .ok (.lst ds) S1 else .no
def _root_.PV.lstMQ (ds : List D) (S1 : Sto) : Out D := if ds.length ≤ 1000 then .ok (.loc S1.length) (S1 ++ [.lst ds]) else .no
theorem Q_tup : Wp (tupE ms ρ S) Q E = Wp (ms ρ S) (fun ds S1 => Wp (tupQ ds S1) Q E) E := Q_bind
theorem Q_lst : Wp (lstE ms ρ S) Q E = Wp (ms ρ S) (fun ds S1 => Wp (lstQ ds S1) Q E) E := Q_bind
theorem Q_lstM : Wp (lstM ms ρ S) Q E = Wp (ms ρ S) (fun ds S1 => Wp (lstMQ ds S1) Q E) E := Q_bind
theorem wp_tupQ {ds : List D} (h : ds.length ≤ 1000) (q : Q (.tup ds) S) : Wp (tupQ ds S) Q E := by unfold tupQ; rw [if_pos h]; exact q
theorem wp_lstQ {ds : List D} (h : ds.length ≤ 1000) (q : Q (.lst ds) S) : Wp (lstQ ds S) Q E := by unfold lstQ; rw [if_pos h]; exact q
theorem wp_lstMQ {ds : List D} (h : ds.length ≤ 1000) (q : Q (.loc S.length) (S ++ [.lst ds])) : Wp (lstMQ ds S) Q E := by unfold lstMQ; rw [if_pos h]; exact q
theorem Q_cm {C : String} {F : Fn} : Wp (cmE C F (k (.cls C)) ms ρ S) Q E = Wp (ms ρ S) (fun ds S2 => Wp (F (.cls C :: ds) S2) Q E) E := by
  show Wp (if isCl C (.cls C) = true then (ms ρ S).bind fun ds S2 => F (.cls C :: ds) S2 else .no) Q E = _
  rw [if_pos (by simp [isCl]), Q_bind]
theorem Q_sm {C : String} {F : Fn} : Wp (smE C F (k (.cls C)) ms ρ S) Q E = Wp (ms ρ S) (fun ds S2 => Wp (F ds S2) Q E) E := by
  show Wp (if isCl C (.cls C) = true then (ms ρ S).bind fun ds S2 => F ds S2 else .no) Q E = _
  rw [if_pos (by simp [isCl]), Q_bind]
def _root_.PV.mtQ (τ : List (String × Fn)) (n : String) (ms : MA) (ρ : Ev) (x : D) (S1 : Sto) : Out D := match insOf S1 x with
  | some (c, fs) => match τ.lookup c with
    | some F => match fs.lookup n with
      | none => (ms ρ S1).bind fun ds S2 => F (x :: ds) S2
      | some _ => .no
    | none => .no
  | none => .no
theorem Q_mt {τ : List (String × Fn)} {n : String} : Wp (mtO τ n a ms ρ S) Q E = Wp (a ρ S) (fun x S1 => Wp (mtQ τ n ms ρ x S1) Q E) E := Q_bind
theorem wp_mtQ {τ : List (String × Fn)} {n C : String} {fs : List (String × D)} {F : Fn} (e1 : insOf S x = some (C, fs)) (e2 : τ.lookup C = some F) (e3 : fs.lookup n = none) (q : Wp (ms ρ S) (fun ds S2 => Wp (F (x :: ds) S2) Q E) E) : Wp (mtQ τ n ms ρ x S) Q E := by
  unfold mtQ
  simp only [e1, e2, e3]
  rw [Q_bind]
  exact q
def _root_.PV.mtKQ (C : String) (n : String) (l : Nat) (F : Fn) (ms : MA) (ρ : Ev) (x : D) (S1 : Sto) : Out D := match insOf S1 x with
  | some (c', fs) => if c' = C then match fs.lookup n with
      | none => (ms ρ S1).bind fun ds S2 => if ds.length = l then F (x :: ds) S2 else .no
      | some _ => .no
    else .no
  | none => .no
theorem Q_mtK {C n : String} {l : Nat} {F : Fn} : Wp (mtK C n l F a ms ρ S) Q E = Wp (a ρ S) (fun x S1 => Wp (mtKQ C n l F ms ρ x S1) Q E) E := Q_bind
theorem wp_mtKQ {n C : String} {l : Nat} {fs : List (String × D)} {F : Fn} (e1 : insOf S x = some (C, fs)) (e3 : fs.lookup n = none) (q : Wp (ms ρ S) (fun ds S2 => ds.length = l ∧ Wp (F (x :: ds) S2) Q E) E) : Wp (mtKQ C n l F ms ρ x S) Q E := by
  unfold mtKQ
  simp only [e1, e3, if_true]
  exact wp_bind (q.imp (fun ds S2 q => by rw [if_pos q.1]; exact q.2) fun _ _ _ q => q)
def _root_.PV.mthQ (g : D → List D → Sto → Out D) (ms : MA) (ρ : Ev) (x : D) (S1 : Sto) : Out D := if isLoc S1 x = true then (ms ρ S1).bind fun ds S2 => g x ds S2 else .no
theorem Q_mthL {g : D → List D → Sto → Out D} : Wp (mthL g a ms ρ S) Q E = Wp (a ρ S) (fun x S1 => Wp (mthQ g ms ρ x S1) Q E) E := Q_bind
theorem Q_mthS {g : G2} : Wp (mthS g a b ρ S) Q E = Wp (a ρ S) (fun x S1 => Wp (if isStr x = true then (b ρ S1).bind fun y S2 => g x y S2 else .no) Q E) E := Q_bind
theorem Q_isStr {z : Str} {o o' : Out D} : Wp (if isStr (.str z) = true then o else o') Q E = Wp o Q E := rfl
theorem Q_itemsF {g : Fn} : Wp (itemsF g m ρ S) Q E = Wp (m ρ S) (fun d S1 => Wp (match d with
  | .lst xs => g xs S1
  | .tup xs => g xs S1
  | .loc n => match S1[n]? with
    | some (.lst xs) => g xs S1
    | _ => .no
  | _ => .no) Q E) E := Q_bind
/-! slices -/
theorem Q_sli {l h : MO} : Wp (sli m l h ρ S) Q E = Wp (m ρ S) (fun x S1 => Wp (l ρ S1) (fun lo S2 => Wp (h ρ S2) (fun hi S3 => Wp (slG x lo hi S3) Q E) E) E) E := by
  unfold sli
  rw [Q_bind]
  exact Wp_Q fun _ _ => Q_bind.trans (Wp_Q fun _ _ => Q_bind)
theorem Q_oNo {Q : Option Int → Sto → Prop} : Wp (oNo ρ S) Q E = Q none S := rfl
theorem Q_oSo {Q : Option Int → Sto → Prop} : Wp (oSo m ρ S) Q E = Wp (m ρ S) (fun d S1 => Wp (match d with | .int i => Out.ok (some i) S1 | _ => .no) Q E) E := Q_bind
/-! numbers -/
variable {i j : Int}
theorem Q_add : Wp (addG (.int i) (.int j) S) Q E = Q (.int (i + j)) S := rfl
theorem Q_addI : Wp (addI (.int i) (.int j) S) Q E = Q (.int (i + j)) S := rfl
theorem Q_sub : Wp (subG (.int i) (.int j) S) Q E = Q (.int (i - j)) S := rfl
theorem Q_neg : Wp (negG (.int i) S) Q E = Q (.int (-i)) S := rfl
theorem Q_eqI : Wp (eqG false (.int i) (.int j) S) Q E = Q (.bl (decide (i = j))) S := by
  unfold eqG
  rw [eqD_int]
  simp [Q_ok]
theorem Q_neI : Wp (eqG true (.int i) (.int j) S) Q E = Q (.bl (!decide (i = j))) S := by
  unfold eqG
  rw [eqD_int]
  simp [Q_ok]
theorem Q_lt : Wp (ltG (.int i) (.int j) S) Q E = Q (.bl (decide (i < j))) S := rfl
theorem Q_le : Wp (leG (.int i) (.int j) S) Q E = Q (.bl (decide (i ≤ j))) S := rfl
theorem Q_gt : Wp (gtG (.int i) (.int j) S) Q E = Q (.bl (decide (j < i))) S := rfl
theorem Q_ge : Wp (geG (.int i) (.int j) S) Q E = Q (.bl (decide (j ≤ i))) S := rfl
theorem Q_isN {n : Bool} : Wp (isG n x .non S) Q E = Q (.bl (n ^^ isNon x)) S := rfl
theorem Q_int : Wp (intB [.int i] S) Q E = Q (.int i) S := rfl
theorem Q_intb {b : Bool} : Wp (intB [.bl b] S) Q E = Q (.int (if b = true then 1 else 0)) S := rfl
theorem Q_abs : Wp (absB [.int i] S) Q E = Q (.int (if i < 0 then -i else i)) S := rfl
variable {xs ys : List D}
theorem Q_lenl : Wp (lenB [.lst xs] S) Q E = Q (.int xs.length) S := rfl
theorem Q_lent : Wp (lenB [.tup xs] S) Q E = Q (.int xs.length) S := rfl
theorem Q_tupl : Wp (tupB [.lst xs] S) Q E = Q (.tup xs) S := rfl
theorem Q_tupt : Wp (tupB [.tup xs] S) Q E = Q (.tup xs) S := rfl
theorem Q_listl : Wp (listB [.lst xs] S) Q E = Q (.lst xs) S := rfl
theorem Q_listt : Wp (listB [.tup xs] S) Q E = Q (.lst xs) S := rfl
theorem Q_onlyB {o : Out D} : Wp (onlyB o) Q E = Wp o (fun d S1 => Wp (match d with | .bl b => .ok (.bl b) S1 | _ => .no) Q E) E := Q_bind
theorem Q_notB {o : Out D} : Wp (notB o) Q E = Wp o (fun d S1 => Wp (match d with | .bl b => .ok (.bl (!b)) S1 | _ => .no) Q E) E := Q_bind
end
section
variable {S : Sto} {E : XQ} {Q : D → Sto → Prop}
theorem Q_ixt0 {a : D} {xs : List D} : Wp (ixG (.tup (a :: xs)) (.int 0) S) Q E = Q a S := by
  have e : L2.atI (a :: xs) 0 = some a := by rw [L2.atI, L2.ixN, List.length_cons, if_pos (by decide), if_pos (by first | omega | (simp only [List.length_cons]; omega))]; rfl
  unfold ixG
  simp only [e]
  rfl
theorem Q_ixt1 {a b : D} {xs : List D} : Wp (ixG (.tup (a :: b :: xs)) (.int 1) S) Q E = Q b S := by
  have e : L2.atI (a :: b :: xs) 1 = some b := by rw [L2.atI, L2.ixN, List.length_cons, if_pos (by decide), if_pos (by first | omega | (simp only [List.length_cons]; omega))]; rfl
  unfold ixG
  simp only [e]
  rfl
theorem Q_ixt2 {a b c : D} {xs : List D} : Wp (ixG (.tup (a :: b :: c :: xs)) (.int 2) S) Q E = Q c S := by
  have e : L2.atI (a :: b :: c :: xs) 2 = some c := by rw [L2.atI, L2.ixN, List.length_cons, if_pos (by decide), if_pos (by first | omega | (simp only [List.length_cons]; omega))]; rfl
  unfold ixG
  simp only [e]
  rfl
theorem Q_ixt3 {a b c d : D} {xs : List D} : Wp (ixG (.tup (a :: b :: c :: d :: xs)) (.int 3) S) Q E = Q d S := by
  have e : L2.atI (a :: b :: c :: d :: xs) 3 = some d := by rw [L2.atI, L2.ixN, List.length_cons, if_pos (by decide), if_pos (by first | omega | (simp only [List.length_cons]; omega))]; rfl
  unfold ixG
  simp only [e]
  rfl
theorem Q_ixl0 {a : D} {xs : List D} : Wp (ixG (.lst (a :: xs)) (.int 0) S) Q E = Q a S := by
  have e : L2.atI (a :: xs) 0 = some a := by rw [L2.atI, L2.ixN, List.length_cons, if_pos (by decide), if_pos (by first | omega | (simp only [List.length_cons]; omega))]; rfl
  unfold ixG
  simp only [e]
  rfl
theorem Q_ixl1 {a b : D} {xs : List D} : Wp (ixG (.lst (a :: b :: xs)) (.int 1) S) Q E = Q b S := by
  have e : L2.atI (a :: b :: xs) 1 = some b := by rw [L2.atI, L2.ixN, List.length_cons, if_pos (by decide), if_pos (by first | omega | (simp only [List.length_cons]; omega))]; rfl
  unfold ixG
  simp only [e]
  rfl
theorem Q_ixl2 {a b c : D} {xs : List D} : Wp (ixG (.lst (a :: b :: c :: xs)) (.int 2) S) Q E = Q c S := by
  have e : L2.atI (a :: b :: c :: xs) 2 = some c := by rw [L2.atI, L2.ixN, List.length_cons, if_pos (by decide), if_pos (by first | omega | (simp only [List.length_cons]; omega))]; rfl
  unfold ixG
  simp only [e]
  rfl
theorem Q_ixl3 {a b c d : D} {xs : List D} : Wp (ixG (.lst (a :: b :: c :: d :: xs)) (.int 3) S) Q E = Q d S := by
  have e : L2.atI (a :: b :: c :: d :: xs) 3 = some d := by rw [L2.atI, L2.ixN, List.length_cons, if_pos (by decide), if_pos (by first | omega | (simp only [List.length_cons]; omega))]; rfl
  unfold ixG
  simp only [e]
  rfl
end
section
variable {ρ : Ev} {S : Sto} {N : Ev → Sto → Prop} {R : D → Sto → Prop} {B C : Ev → Sto → Prop} {E : XQ} {a b : MS} {m o : ME} {t : MT} {ms : MA}
theorem Q_seq : Ws (sSeq a b ρ S) N R B C E = Ws (a ρ S) (fun ρ' S' => Ws (b ρ' S') N R B C E) R B C E := by
  unfold sSeq
  match a ρ S with
  | .ok (.nx _) _ => rfl
  | .ok (.rt _) _ => rfl
  | .ok (.bk _) _ => rfl
  | .ok (.ct _) _ => rfl
  | .ex _ _ _ => rfl
  | .no => rfl
theorem Q_sNil : Ws (sNil ρ S) N R B C E = N ρ S := rfl
theorem Q_ret : Ws (sRet m ρ S) N R B C E = Wp (m ρ S) R E := Q_sbind
theorem Q_retN : Ws (sRetN ρ S) N R B C E = R .non S := rfl
theorem Q_exp : Ws (sExp m ρ S) N R B C E = Wp (m ρ S) (fun _ S1 => N ρ S1) E := Q_sbind
theorem Q_set {i : Nat} : Ws (sSet i m ρ S) N R B C E = Wp (m ρ S) (fun d S1 => N (ρ.set i (some d)) S1) E := Q_sbind
theorem Q_if : Ws (sIf t a b ρ S) N R B C E = Wp (t ρ S) (fun c S1 => Ws (if c = true then a ρ S1 else b ρ S1) N R B C E) E := Q_sbind
theorem Q_brk : Ws (sBrk ρ S) N R B C E = B ρ S := rfl
theorem Q_cnt : Ws (sCnt ρ S) N R B C E = C ρ S := rfl
theorem Q_st {o o' : Out Fl} : Ws (if true = true then o else o') N R B C E = Ws o N R B C E := rfl
theorem Q_sf {o o' : Out Fl} : Ws (if false = true then o else o') N R B C E = Ws o' N R B C E := rfl
theorem Q_nx : Ws (.ok (.nx ρ) S) N R B C E = N ρ S := rfl
theorem Q_sT {h : Decidable True} {o o' : Out Fl} : Ws (@ite _ True h o o') N R B C E = Ws o N R B C E := by rw [if_pos trivial]
theorem Q_sF {h : Decidable False} {o o' : Out Fl} : Ws (@ite _ False h o o') N R B C E = Ws o' N R B C E := by rw [if_neg not_false]
theorem ws_dt {p : Prop} [Decidable p] {o o' : Out Fl} (h : p) (q : Ws o N R B C E) : Ws (if decide p = true then o else o') N R B C E := ws_t (decide_eq_true h) q
theorem ws_df {p : Prop} [Decidable p] {o o' : Out Fl} (h : ¬ p) (q : Ws o' N R B C E) : Ws (if decide p = true then o else o') N R B C E := ws_f (decide_eq_false h) q
theorem ws_nf {p : Prop} [Decidable p] {o o' : Out Fl} (h : p) (q : Ws o' N R B C E) : Ws (if (!decide p) = true then o else o') N R B C E := ws_f (by rw [decide_eq_true h]; rfl) q
def _root_.PV.parQ (i j : Nat) (ρ : Ev) (ds : List D) (S1 : Sto) : Out Fl := match ds with
  | [d, e] => .ok (.nx ((ρ.set i (some d)).set j (some e))) S1
  | _ => .no
theorem Q_par {i j : Nat} : Ws (sPar i j ms ρ S) N R B C E = Wp (ms ρ S) (fun ds S1 => Ws (parQ i j ρ ds S1) N R B C E) E := Q_sbind
theorem Q_parQ {i j : Nat} {d e : D} : Ws (parQ i j ρ [d, e] S) N R B C E = N ((ρ.set i (some d)).set j (some e)) S := rfl
def _root_.PV.asgQ (T : Tg) (d : D) (ρ : Ev) (S1 : Sto) : Out Fl := match setT T d ρ with
  | some ρ' => .ok (.nx ρ') S1
  | none => .no
theorem Q_asg {T : Tg} : Ws (sAsg T m ρ S) N R B C E = Wp (m ρ S) (fun d S1 => Ws (asgQ T d ρ S1) N R B C E) E := Q_sbind
theorem Q_asgN {i : Nat} {d : D} : Ws (asgQ (.nm i) d ρ S) N R B C E = N (ρ.set i (some d)) S := rfl
theorem Q_asg2 {i j : Nat} {d e : D} : Ws (asgQ (.tp [i, j]) (.tup [d, e]) ρ S) N R B C E = N ((ρ.set i (some d)).set j (some e)) S := rfl
theorem Q_asg3 {i j l : Nat} {d e f : D} : Ws (asgQ (.tp [i, j, l]) (.tup [d, e, f]) ρ S) N R B C E = N (((ρ.set i (some d)).set j (some e)).set l (some f)) S := rfl
theorem Q_asg4 {i j l n : Nat} {d e f g : D} : Ws (asgQ (.tp [i, j, l, n]) (.tup [d, e, f, g]) ρ S) N R B C E = N ((((ρ.set i (some d)).set j (some e)).set l (some f)).set n (some g)) S := rfl
theorem ws_asgQ {T : Tg} {d : D} {ρ' : Ev} (e : setT T d ρ = some ρ') (q : N ρ' S) : Ws (asgQ T d ρ S) N R B C E := by
  unfold asgQ
  rw [e]
  exact q
def _root_.PV.augQ (i : Nat) (g : G2) (m : ME) (ρ : Ev) (x : D) (S : Sto) : Out Fl := (m ρ S).bind fun y S1 => (g x y S1).bind fun z S2 => .ok (.nx (ρ.set i (some z))) S2
theorem Q_aug {i : Nat} {g : G2} : Ws (sAug i g m ρ S) N R B C E = Wp (v i ρ S) (fun x S' => Ws (augQ i g m ρ x S') N R B C E) E := by
  unfold sAug v
  match ρ[i]? with
  | some (some x) => rfl
  | some none => rfl
  | none => rfl
theorem Q_augQ {i : Nat} {g : G2} {x : D} : Ws (augQ i g m ρ x S) N R B C E = Wp (m ρ S) (fun y S1 => Wp (g x y S1) (fun z S2 => N (ρ.set i (some z)) S2) E) E := by
  unfold augQ
  rw [Q_sbind]
  exact Wp_Q fun _ _ => Q_sbind
/-! walks -/
variable {Q : List D × Option Nat → Sto → Prop} {d : D}
def _root_.PV.seqQ (d : D) (S1 : Sto) : Out (List D × Option Nat) := match itemsI S1 d with
  | some p => .ok p S1
  | none => .no
theorem Q_iSeq : Wp (iSeq m ρ S) Q E = Wp (m ρ S) (fun d S1 => Wp (seqQ d S1) Q E) E := Q_bind
theorem Q_seqL {xs : List D} : Wp (seqQ (.lst xs) S) Q E = Q (xs, none) S := rfl
theorem Q_seqT {xs : List D} : Wp (seqQ (.tup xs) S) Q E = Q (xs, none) S := rfl
theorem Q_seqS {z : Str} : Wp (seqQ (.str z) S) Q E = Q (signs z, none) S := rfl
def _root_.PV.r1Q (ds : List D) (S1 : Sto) : Out (List D × Option Nat) := match ds with
  | [.int j] => if near62 j = true then .ok (ups 0 j.toNat, none) S1 else .no
  | _ => .no
def _root_.PV.r2Q (ds : List D) (S1 : Sto) : Out (List D × Option Nat) := match ds with
  | [.int i, .int j] => if near62 i = true ∧ near62 j = true then .ok (ups i (j - i).toNat, none) S1 else .no
  | _ => .no
theorem Q_iR1 : Wp (iR1 ms ρ S) Q E = Wp (ms ρ S) (fun ds S1 => Wp (r1Q ds S1) Q E) E := Q_bind
theorem Q_iR2 : Wp (iR2 ms ρ S) Q E = Wp (ms ρ S) (fun ds S1 => Wp (r2Q ds S1) Q E) E := Q_bind
theorem wp_r1Q {j : Int} (h : near62 j = true) (q : Q (ups 0 j.toNat, none) S) : Wp (r1Q [.int j] S) Q E := by
  unfold r1Q
  simp only [h, if_true]
  exact q
theorem wp_r2Q {i j : Int} (h : near62 i = true) (h' : near62 j = true) (q : Q (ups i (j - i).toNat, none) S) : Wp (r2Q [.int i, .int j] S) Q E := by
  unfold r2Q
  simp only [h, h', and_self, if_true]
  exact q
theorem Q_iEn : Wp (iEn ms ρ S) Q E = Wp (ms ρ S) (fun ds S1 => Wp (enD ds S1) Q E) E := Q_bind
theorem Q_iZp : Wp (iZp ms ρ S) Q E = Wp (ms ρ S) (fun ds S1 => Wp (zpD ds S1) Q E) E := Q_bind
theorem Q_zpl {xs ys : List D} : Wp (zpD [.lst xs, .lst ys] S) Q E = Q (zipD xs ys, none) S := rfl
theorem Q_zpt {xs ys : List D} : Wp (zpD [.tup xs, .tup ys] S) Q E = Q (zipD xs ys, none) S := rfl
end
section
variable {α : Type} {E : XQ} {S : Sto} {ρ : Ev} {Q : D → Sto → Prop} {m : ME} {ms : MA}
def _root_.PV.frzQ (d : D) (S1 : Sto) : Out D := match d with
  | .loc n => match S1[n]? with
    | some (.lst xs) => .ok (.lst xs) (S1.set n .dead)
    | _ => .no
  | _ => .no
theorem Q_frz : Wp (frzE m ρ S) Q E = Wp (m ρ S) (fun d S1 => Wp (frzQ d S1) Q E) E := Q_bind
def _root_.PV.lnsQ (d : D) (S1 : Sto) : Out D := match d with
  | .lst xs => match asStrs xs with
    | some ys => if ys.Nodup ∧ ys.length < 4000 then .ok (.int ys.length) S1 else .no
    | none => .no
  | _ => .no
theorem Q_lns : Wp (lnsE m ρ S) Q E = Wp (m ρ S) (fun d S1 => Wp (lnsQ d S1) Q E) E := Q_bind
theorem wp_lnsQ {ys : List Str} (h : ys.Nodup) (h2 : ys.length < 4000) (q : Q (.int ys.length) S) : Wp (lnsQ (.lst (ys.map .str)) S) Q E := by
  unfold lnsQ
  simp only [asStrs_map]
  rw [if_pos ⟨h, h2⟩]
  exact q
theorem Q_dc {kvs : List (Str × Cst)} : Wp (dcE kvs ρ S) Q E = Q (.hob (.dK (L2.mergeK [] (kvV kvs)))) S := rfl
theorem Q_iEs {Q : List D × Option Nat → Sto → Prop} : Wp (iEs ms ρ S) Q E = Wp (ms ρ S) (fun ds S1 => Wp (ensD ds S1) Q E) E := Q_bind
theorem Q_ens {Q : List D × Option Nat → Sto → Prop} {z : Str} : Wp (ensD [.str z] S) Q E = Q (numbered 0 (signs z), none) S := rfl
theorem Q_enl {Q : List D × Option Nat → Sto → Prop} {xs : List D} : Wp (enD [.lst xs] S) Q E = Q (numbered 0 xs, none) S := rfl
theorem Q_ent {Q : List D × Option Nat → Sto → Prop} {xs : List D} : Wp (enD [.tup xs] S) Q E = Q (numbered 0 xs, none) S := rfl
end
section
variable {ρ : Ev} {S : Sto} {N : Ev → Sto → Prop} {R : D → Sto → Prop} {B C : Ev → Sto → Prop} {E : XQ} {m o i : ME}
end
end PVZ
set_option Elab.async false
set_option linter.all false
set_option maxRecDepth 100000
set_option maxHeartbeats 4000000
/-! the rules of Q0 and Q1, over words that are not unfolded -/
namespace PV
open PySem
@[irreducible] def Wp {α : Type} (o : Out α) (Q : α → Sto → Prop) (E : XQ) (t : Tag (Q, E) := .mk) : Prop := PVZ.Wp o Q E t
@[irreducible] def Ws (o : Out Fl) (N : Ev → Sto → Prop) (R : D → Sto → Prop) (B C : Ev → Sto → Prop) (E : XQ) (t : Tag (N, R, B, C, E) := .mk) : Prop := PVZ.Ws o N R B C E t
section
variable {α β : Type} {o : Out α} {Q Q' : α → Sto → Prop} {E E' : XQ}
theorem Wp.imp (h : Wp o Q E) (i : ∀ a S, Q a S → Q' a S) (j : ∀ c fs S, E c fs S → E' c fs S) : Wp o Q' E' := by with_unfolding_all exact PVZ.Wp.imp h i j
theorem wp_ok {a : α} {S : Sto} (h : Q a S) : Wp (.ok a S) Q E := by with_unfolding_all exact PVZ.wp_ok h
theorem wp_eq {a : α} {S : Sto} (e : o = .ok a S) (h : Q a S) : Wp o Q E := by with_unfolding_all exact PVZ.wp_eq e h
theorem Wp.of {o : Out α} (h : Wp o Q fun _ _ _ => False) : ∃ a S, o = .ok a S ∧ Q a S := by with_unfolding_all exact PVZ.Wp.of h
theorem wp_bind {k : α → Sto → Out β} {R : β → Sto → Prop} (h : Wp o (fun a S => Wp (k a S) R E) E) : Wp (o.bind k) R E := by with_unfolding_all exact PVZ.wp_bind h
theorem ws_bind {k : α → Sto → Out Fl} {N : Ev → Sto → Prop} {R : D → Sto → Prop} {B C : Ev → Sto → Prop} (h : Wp o (fun a S => Ws (k a S) N R B C E) E) : Ws (o.bind k) N R B C E := by with_unfolding_all exact PVZ.ws_bind h
theorem Ws.imp {o : Out Fl} {N N' : Ev → Sto → Prop} {R R' : D → Sto → Prop} {B B' C C' : Ev → Sto → Prop} (h : Ws o N R B C E) (i : ∀ ρ S, N ρ S → N' ρ S) (j : ∀ d S, R d S → R' d S) (b : ∀ ρ S, B ρ S → B' ρ S) (c : ∀ ρ S, C ρ S → C' ρ S) (e : ∀ c fs S, E c fs S → E' c fs S) : Ws o N' R' B' C' E' := by with_unfolding_all exact PVZ.Ws.imp h i j b c e
end
theorem ex1 {α : Type} {p q : α → Prop} {a : α} (h : p a) (h2 : q a) : ∃ a, p a ∧ q a := by with_unfolding_all exact PVZ.ex1 h h2
section
variable {ρ : Ev} {S : Sto} {Q : D → Sto → Prop} {E : XQ} {a b c : ME} {d : D}
variable {t u : MT}
theorem wp_t {α : Type} {x : Bool} {o o' : Out α} {Q : α → Sto → Prop} (h : x = true) (q : Wp o Q E) : Wp (if x = true then o else o') Q E := by with_unfolding_all exact PVZ.wp_t h q
theorem wp_f {α : Type} {x : Bool} {o o' : Out α} {Q : α → Sto → Prop} (h : x = false) (q : Wp o' Q E) : Wp (if x = true then o else o') Q E := by with_unfolding_all exact PVZ.wp_f h q
theorem wp_ofLen {n : Nat} {F : Fn} {ds : List D} (h : ds.length = n) (q : Wp (F ds S) Q E) : Wp (ofLen n F ds S) Q E := by with_unfolding_all exact PVZ.wp_ofLen h q
theorem wp_kw {idx : List Nat} {dds ds es : List D} {F : Fn} (h : pickL idx (ds ++ dds) = es) (q : Wp (F es S) Q E) : Wp (kwF idx dds F ds S) Q E := by with_unfolding_all exact PVZ.wp_kw h q
theorem wp_mod {i j : Int} (h : 0 < j) (q : Q (.int (i % j)) S) : Wp (modG (.int i) (.int j) S) Q E := by with_unfolding_all exact PVZ.wp_mod h q
theorem wp_pow {i j : Int} (h : powOk i j = true) (q : Q (.int (i ^ j.toNat)) S) : Wp (powG (.int i) (.int j) S) Q E := by with_unfolding_all exact PVZ.wp_pow h q
theorem wp_eqv {x y : D} {e n : Bool} (h : eqD x y = some e) (q : Q (.bl (n ^^ e)) S) : Wp (eqG n x y S) Q E := by with_unfolding_all exact PVZ.wp_eqv h q
theorem wp_ixl {xs : List D} {i : Int} {x : D} (h : L2.atI xs i = some x) (q : Q x S) : Wp (ixG (.lst xs) (.int i) S) Q E := by with_unfolding_all exact PVZ.wp_ixl h q
theorem wp_fld {cs : List String} {f : String} {x y : D} {c : String} {fs : List (String × D)} (h1 : insOf S x = some (c, fs)) (h2 : cs.contains c = true) (h3 : fs.lookup f = some y) (q : Q y S) : Wp (fldG cs f x S) Q E := by with_unfolding_all exact PVZ.wp_fld h1 h2 h3 q
theorem wp_mkF {c : String} {F : Fn} {ds : List D} (h : Wp (F (.loc S.length :: ds) (S ++ [.ins c []])) (fun d S2 => d = .non ∧ ∃ fs, S2[S.length]? = some (.ins c fs) ∧ Wp (gcO S (.ok (.obj c fs) (S2.set S.length .dead))) Q E) (fun x fs S2 => Wp (gcO S (.ex x fs S2)) Q E)) : Wp (mkF c F ds S) Q E := by with_unfolding_all exact PVZ.wp_mkF h
theorem wp_mkF_of {c : String} {F : Fn} {ds : List D} {fs : List (String × D)} (hF : F (.loc S.length :: ds) (S ++ [Cell.ins c []]) = .ok .non ((S ++ [Cell.ins c []]).set S.length (Cell.ins c fs))) (hd : belowf S.length fs = true) (q : Q (.obj c fs) S) : Wp (mkF c F ds S) Q E := by with_unfolding_all exact PVZ.wp_mkF_of hF hd q
theorem mkF_of {c : String} {F : Fn} {ds : List D} {fs : List (String × D)} (hF : F (.loc S.length :: ds) (S ++ [Cell.ins c []]) = .ok .non ((S ++ [Cell.ins c []]).set S.length (Cell.ins c fs))) (hd : belowf S.length fs = true) : mkF c F ds S = .ok (.obj c fs) S := by with_unfolding_all exact PVZ.mkF_of hF hd
theorem wp_isi {ans : Ty → Option Bool} {cls : D → Bool} {ds : List D} {b : Bool} (h : isiF ans cls ds S = .ok (.bl b) S) (q : Q (.bl b) S) : Wp (isiF ans cls ds S) Q E := by with_unfolding_all exact PVZ.wp_isi h q
theorem wp_isiA {Ts cs : List String} (h : Wp (a ρ S) (fun x S1 => ∃ t, tyD S1 x = some t ∧ (match t with | .b n => Q (.bl (Ts.any fun T => subT n T)) S1 | .c n => cs.contains n = true ∧ Q (.bl false) S1)) E) : Wp (isiA Ts cs a ρ S) Q E := by with_unfolding_all exact PVZ.wp_isiA h
end
section
variable {ρ : Ev} {S : Sto} {N : Ev → Sto → Prop} {R : D → Sto → Prop} {B C : Ev → Sto → Prop} {E : XQ} {a b : MS} {m o : ME} {t : MT}
theorem ws_t {x : Bool} {o o' : Out Fl} (h : x = true) (q : Ws o N R B C E) : Ws (if x = true then o else o') N R B C E := by with_unfolding_all exact PVZ.ws_t h q
theorem ws_f {x : Bool} {o o' : Out Fl} (h : x = false) (q : Ws o' N R B C E) : Ws (if x = true then o else o') N R B C E := by with_unfolding_all exact PVZ.ws_f h q
theorem ws_fld {cs : List String} {f : String} (h : Wp (m ρ S) (fun y S1 => Wp (o ρ S1) (fun x S2 => ∃ n c fs, x = .loc n ∧ S2[n]? = some (.ins c fs) ∧ (cs.contains c = true ∧ fs.length < 1000) ∧ N ρ (S2.set n (.ins c (putD f y fs)))) E) E) : Ws (sFldS cs f o m ρ S) N R B C E := by with_unfolding_all exact PVZ.ws_fld h
theorem ws_forL {T : Tg} {g : Option Nat} {all : List D} (I : Nat → Ev → Sto → Prop) (hg : ∀ j ρ S, I j ρ S → Gd g all S) : ∀ (xs : List D) (i : Nat) (ρ : Ev) (S : Sto), (∀ j x, xs[j]? = some x → ∀ ρ S, I (i + j) ρ S → ∃ ρ1, setT T x ρ = some ρ1 ∧ Ws (b ρ1 S) (I (i + j + 1)) R N (I (i + j + 1)) E) → (∀ ρ S, I (i + xs.length) ρ S → N ρ S) → I i ρ S → Ws (forL T b g all xs ρ S) N R B C E := by with_unfolding_all exact PVZ.ws_forL I hg
theorem ws_for {T : Tg} {it : MI} (I : Nat → Ev → Sto → Prop) (h : Wp (it ρ S) (fun p S1 => (∀ j ρ S, I j ρ S → Gd p.2 p.1 S) ∧ I 0 ρ S1 ∧ (∀ j x, p.1[j]? = some x → ∀ ρ S, I j ρ S → ∃ ρ1, setT T x ρ = some ρ1 ∧ Ws (b ρ1 S) (I (j + 1)) R N (I (j + 1)) E) ∧ (∀ ρ S, I p.1.length ρ S → N ρ S)) E) : Ws (sFor T it b ρ S) N R B C E := by with_unfolding_all exact PVZ.ws_for I h
theorem ws_whl (I : Nat → Ev → Sto → Prop) (n : Nat) (h0 : I n ρ S) (hs : ∀ m ρ S, I m ρ S → Wp (t ρ S) (fun c S1 => (c = true → Ws (b ρ S1) (fun ρ' S' => ∃ m', m' < m ∧ I m' ρ' S') R N (fun ρ' S' => ∃ m', m' < m ∧ I m' ρ' S') E) ∧ (c = false → N ρ S1)) E) : Ws (sWhl t b ρ S) N R B C E := by with_unfolding_all exact PVZ.ws_whl I n h0 hs
theorem wp_lcL {T : Tg} {e : ME} {g : Option Nat} {all : List D} (I : Nat → List D → Sto → Prop) (hg : ∀ j acc S, I j acc S → Gd g all S) : ∀ (xs : List D) (i : Nat) (acc : List D) (S : Sto), (∀ j x, xs[j]? = some x → ∀ acc S, I (i + j) acc S → ∃ ρ1, setT T x ρ = some ρ1 ∧ Wp (t ρ1 S) (fun c S1 => (c = true → Wp (e ρ1 S1) (fun d S2 => I (i + j + 1) (acc ++ [d]) S2) fun _ _ _ => False) ∧ (c = false → I (i + j + 1) acc S1)) fun _ _ _ => False) → I i acc S → ∃ ds S', lcL T t e g all ρ xs S = .ok ds S' ∧ I (i + xs.length) (acc ++ ds) S' := by with_unfolding_all exact PVZ.wp_lcL I hg
theorem wp_lcO {T : Tg} {it : MI} {e : ME} {Q : List D → Sto → Prop} (I : Nat → List D → Sto → Prop) (h : Wp (it ρ S) (fun p S1 => p.1.length ≤ 1000 ∧ (∀ j acc S, I j acc S → Gd p.2 p.1 S) ∧ I 0 [] S1 ∧ (∀ j x, p.1[j]? = some x → ∀ acc S, I j acc S → ∃ ρ1, setT T x (wipeD ρ T.slots) = some ρ1 ∧ Wp (t ρ1 S) (fun c S1 => (c = true → Wp (e ρ1 S1) (fun d S2 => I (j + 1) (acc ++ [d]) S2) fun _ _ _ => False) ∧ (c = false → I (j + 1) acc S1)) fun _ _ _ => False) ∧ ∀ ds S, I p.1.length ds S → Q ds S) E) : Wp (lcO T it t e ρ S) Q E := by with_unfolding_all exact PVZ.wp_lcO I h
theorem wp_lcE {T : Tg} {it : MI} {e : ME} {Q : D → Sto → Prop} (h : Wp (lcO T it t e ρ S) (fun ds S1 => Q (.lst ds) S1) E) : Wp (lcE T it t e ρ S) Q E := by with_unfolding_all exact PVZ.wp_lcE h
end
section
variable {S : Sto} {Q : D → Sto → Prop} {E : XQ}
def Gq (S : Sto) (Q : D → Sto → Prop) (E : XQ) (d : D) (S' : Sto) : Prop := Wp (gcO S (.ok d S')) Q E
def Gx (S : Sto) (Q : D → Sto → Prop) (E : XQ) : XQ := fun c fs S' => Wp (gcO S (.ex c fs S')) Q E
theorem gq_len {d : D} {S' : Sto} (h : S'.length = S.length) (q : Q d S') : Gq S Q E d S' := by with_unfolding_all exact PVZ.gq_len h q
theorem gq_same {d : D} (q : Q d S) : Gq S Q E d S := by with_unfolding_all exact PVZ.gq_same q
theorem gq_app {d : D} {T : Sto} (h : d.und S.length = true) (q : Q d S) : Gq S Q E d (S ++ T) := by with_unfolding_all exact PVZ.gq_app h q
theorem wp_dfn {np n : Nat} {b : MS} {ds : List D} (hl : ds.length = np) (h : Ws (b (ds.map some ++ List.replicate (n - np) none) S) (fun _ S' => Gq S Q E .non S') (Gq S Q E) (fun _ _ => False) (fun _ _ => False) (Gx S Q E)) : Wp (dfn np n b ds S) Q E := by with_unfolding_all exact PVZ.wp_dfn hl h
end
theorem Wp_Q {α : Type} {o : Out α} {Q Q' : α → Sto → Prop} {E : XQ} (h : ∀ a S, Q a S = Q' a S) : Wp o Q E = Wp o Q' E := by with_unfolding_all exact PVZ.Wp_Q h
section
variable {α β : Type} {E : XQ} {S : Sto} {ρ : Ev}
theorem Q_bind {o : Out α} {k : α → Sto → Out β} {Q : β → Sto → Prop} : Wp (o.bind k) Q E = Wp o (fun a S => Wp (k a S) Q E) E := by with_unfolding_all exact PVZ.Q_bind
theorem Q_sbind {o : Out α} {k : α → Sto → Out Fl} {N : Ev → Sto → Prop} {R : D → Sto → Prop} {B C : Ev → Sto → Prop} : Ws (o.bind k) N R B C E = Wp o (fun a S => Ws (k a S) N R B C E) E := by with_unfolding_all exact PVZ.Q_sbind
theorem Q_ok {a : α} {Q : α → Sto → Prop} : Wp (.ok a S) Q E = Q a S := by with_unfolding_all exact PVZ.Q_ok
theorem Q_ex {c : String} {fs : List (String × D)} {Q : α → Sto → Prop} : Wp (.ex c fs S) Q E = E c fs S := by with_unfolding_all exact PVZ.Q_ex
variable {Q : D → Sto → Prop} {d x : D} {o : Option D} {a b c m : ME} {ms : MA} {t u : MT}
theorem Q_v0 : Wp (v 0 (some d :: ρ) S) Q E = Q d S := by with_unfolding_all exact PVZ.Q_v0
theorem Q_vs {n : Nat} : Wp (v (n + 1) (o :: ρ) S) Q E = Wp (v n ρ S) Q E := by with_unfolding_all exact PVZ.Q_vs
theorem Q_k : Wp (k d ρ S) Q E = Q d S := by with_unfolding_all exact PVZ.Q_k
theorem Q_bin {g : G2} : Wp (bin g a b ρ S) Q E = Wp (a ρ S) (fun x S1 => Wp (b ρ S1) (fun y S2 => Wp (g x y S2) Q E) E) E := by with_unfolding_all exact PVZ.Q_bin
theorem Q_una {g : G1} : Wp (una g a ρ S) Q E = Wp (a ρ S) (fun x S1 => Wp (g x S1) Q E) E := by with_unfolding_all exact PVZ.Q_una
theorem Q_cal {F : Fn} : Wp (cal F ms ρ S) Q E = Wp (ms ρ S) (fun ds S1 => Wp (F ds S1) Q E) E := by with_unfolding_all exact PVZ.Q_cal
theorem Q_nil {Q : List D → Sto → Prop} : Wp (aNil ρ S) Q E = Q [] S := by with_unfolding_all exact PVZ.Q_nil
theorem Q_cons {Q : List D → Sto → Prop} : Wp (aCons a ms ρ S) Q E = Wp (a ρ S) (fun x S1 => Wp (ms ρ S1) (fun ds S2 => Q (x :: ds) S2) E) E := by with_unfolding_all exact PVZ.Q_cons
theorem Q_star {Q : List D → Sto → Prop} : Wp (aStar a ms ρ S) Q E = Wp (a ρ S) (fun x S1 => Wp (match x with
  | .lst xs => (ms ρ S1).bind fun ds S2 => .ok (xs ++ ds) S2
  | .tup xs => (ms ρ S1).bind fun ds S2 => .ok (xs ++ ds) S2
  | .loc n => match S1[n]? with
    | some (.lst xs) => (ms ρ S1).bind fun ds S2 => .ok (xs ++ ds) S2
    | _ => .no
  | _ => .no) Q E) E := by with_unfolding_all exact PVZ.Q_star
variable {P : Bool → Sto → Prop}
theorem Q_tst : Wp (tst a ρ S) P E = Wp (a ρ S) (fun d S1 => Wp (match d with | .bl b => Out.ok b S1 | _ => .no) P E) E := by with_unfolding_all exact PVZ.Q_tst
theorem Q_tru : Wp (tru a ρ S) P E = Wp (a ρ S) (fun d S1 => Wp (match truD d with | some b => Out.ok b S1 | none => .no) P E) E := by with_unfolding_all exact PVZ.Q_tru
theorem Q_no : Wp (tNo t ρ S) P E = Wp (t ρ S) (fun c S1 => P (!c) S1) E := by with_unfolding_all exact PVZ.Q_no
theorem Q_an : Wp (tAn t u ρ S) P E = Wp (t ρ S) (fun c S1 => Wp (if c = true then u ρ S1 else .ok false S1) P E) E := by with_unfolding_all exact PVZ.Q_an
theorem Q_or : Wp (tOr t u ρ S) P E = Wp (t ρ S) (fun c S1 => Wp (if c = true then .ok true S1 else u ρ S1) P E) E := by with_unfolding_all exact PVZ.Q_or
theorem Q_ifE : Wp (ifE t a b ρ S) Q E = Wp (t ρ S) (fun c S1 => Wp (if c = true then a ρ S1 else b ρ S1) Q E) E := by with_unfolding_all exact PVZ.Q_ifE
theorem Q_anE : Wp (anE a b ρ S) Q E = Wp (a ρ S) (fun d S1 => Wp (anD b ρ d S1) Q E) E := by with_unfolding_all exact PVZ.Q_anE
theorem Q_orE : Wp (orE a b ρ S) Q E = Wp (a ρ S) (fun d S1 => Wp (orD b ρ d S1) Q E) E := by with_unfolding_all exact PVZ.Q_orE
theorem Q_anD {c : Bool} : Wp (anD b ρ (.bl c) S) Q E = Wp (if c = true then b ρ S else .ok (.bl false) S) Q E := by with_unfolding_all exact PVZ.Q_anD
theorem Q_orD {c : Bool} : Wp (orD b ρ (.bl c) S) Q E = Wp (if c = true then .ok (.bl true) S else b ρ S) Q E := by with_unfolding_all exact PVZ.Q_orD
theorem Q_noE : Wp (noE a ρ S) Q E = Wp (a ρ S) (fun d S1 => Wp (match d with | .bl b => .ok (.bl (!b)) S1 | _ => .no) Q E) E := by with_unfolding_all exact PVZ.Q_noE
theorem Q_chn {g g' : G2} : Wp (chn g g' a b c ρ S) Q E = Wp (a ρ S) (fun x S1 => Wp (b ρ S1) (fun y S2 => Wp (g x y S2) (fun z S3 => Wp (chD g' y c ρ z S3) Q E) E) E) E := by with_unfolding_all exact PVZ.Q_chn
theorem Q_chD {g' : G2} {y : D} {t : Bool} : Wp (chD g' y c ρ (.bl t) S) Q E = Wp (if t = true then (c ρ S).bind fun u S4 => g' y u S4 else .ok (.bl false) S) Q E := by with_unfolding_all exact PVZ.Q_chD
theorem Q_t {o o' : Out α} {Q : α → Sto → Prop} : Wp (if true = true then o else o') Q E = Wp o Q E := by with_unfolding_all exact PVZ.Q_t
theorem Q_f {o o' : Out α} {Q : α → Sto → Prop} : Wp (if false = true then o else o') Q E = Wp o' Q E := by with_unfolding_all exact PVZ.Q_f
theorem Q_T {h : Decidable True} {o o' : Out α} {Q : α → Sto → Prop} : Wp (@ite _ True h o o') Q E = Wp o Q E := by with_unfolding_all exact PVZ.Q_T
theorem Q_F {h : Decidable False} {o o' : Out α} {Q : α → Sto → Prop} : Wp (@ite _ False h o o') Q E = Wp o' Q E := by with_unfolding_all exact PVZ.Q_F
theorem wp_dt {p : Prop} [Decidable p] {o o' : Out α} {Q : α → Sto → Prop} (h : p) (q : Wp o Q E) : Wp (if decide p = true then o else o') Q E := by with_unfolding_all exact PVZ.wp_dt h q
theorem wp_df {p : Prop} [Decidable p] {o o' : Out α} {Q : α → Sto → Prop} (h : ¬ p) (q : Wp o' Q E) : Wp (if decide p = true then o else o') Q E := by with_unfolding_all exact PVZ.wp_df h q
theorem Q_tup : Wp (tupE ms ρ S) Q E = Wp (ms ρ S) (fun ds S1 => Wp (tupQ ds S1) Q E) E := by with_unfolding_all exact PVZ.Q_tup
theorem Q_lst : Wp (lstE ms ρ S) Q E = Wp (ms ρ S) (fun ds S1 => Wp (lstQ ds S1) Q E) E := by with_unfolding_all exact PVZ.Q_lst
theorem Q_lstM : Wp (lstM ms ρ S) Q E = Wp (ms ρ S) (fun ds S1 => Wp (lstMQ ds S1) Q E) E := by with_unfolding_all exact PVZ.Q_lstM
theorem wp_tupQ {ds : List D} (h : ds.length ≤ 1000) (q : Q (.tup ds) S) : Wp (tupQ ds S) Q E := by with_unfolding_all exact PVZ.wp_tupQ h q
theorem wp_lstQ {ds : List D} (h : ds.length ≤ 1000) (q : Q (.lst ds) S) : Wp (lstQ ds S) Q E := by with_unfolding_all exact PVZ.wp_lstQ h q
theorem wp_lstMQ {ds : List D} (h : ds.length ≤ 1000) (q : Q (.loc S.length) (S ++ [.lst ds])) : Wp (lstMQ ds S) Q E := by with_unfolding_all exact PVZ.wp_lstMQ h q
theorem Q_cm {C : String} {F : Fn} : Wp (cmE C F (k (.cls C)) ms ρ S) Q E = Wp (ms ρ S) (fun ds S2 => Wp (F (.cls C :: ds) S2) Q E) E := by with_unfolding_all exact PVZ.Q_cm
theorem Q_sm {C : String} {F : Fn} : Wp (smE C F (k (.cls C)) ms ρ S) Q E = Wp (ms ρ S) (fun ds S2 => Wp (F ds S2) Q E) E := by with_unfolding_all exact PVZ.Q_sm
theorem Q_mt {τ : List (String × Fn)} {n : String} : Wp (mtO τ n a ms ρ S) Q E = Wp (a ρ S) (fun x S1 => Wp (mtQ τ n ms ρ x S1) Q E) E := by with_unfolding_all exact PVZ.Q_mt
theorem wp_mtQ {τ : List (String × Fn)} {n C : String} {fs : List (String × D)} {F : Fn} (e1 : insOf S x = some (C, fs)) (e2 : τ.lookup C = some F) (e3 : fs.lookup n = none) (q : Wp (ms ρ S) (fun ds S2 => Wp (F (x :: ds) S2) Q E) E) : Wp (mtQ τ n ms ρ x S) Q E := by with_unfolding_all exact PVZ.wp_mtQ e1 e2 e3 q
theorem Q_mtK {C n : String} {l : Nat} {F : Fn} : Wp (mtK C n l F a ms ρ S) Q E = Wp (a ρ S) (fun x S1 => Wp (mtKQ C n l F ms ρ x S1) Q E) E := by with_unfolding_all exact PVZ.Q_mtK
theorem wp_mtKQ {n C : String} {l : Nat} {fs : List (String × D)} {F : Fn} (e1 : insOf S x = some (C, fs)) (e3 : fs.lookup n = none) (q : Wp (ms ρ S) (fun ds S2 => ds.length = l ∧ Wp (F (x :: ds) S2) Q E) E) : Wp (mtKQ C n l F ms ρ x S) Q E := by with_unfolding_all exact PVZ.wp_mtKQ e1 e3 q
theorem Q_mthL {g : D → List D → Sto → Out D} : Wp (mthL g a ms ρ S) Q E = Wp (a ρ S) (fun x S1 => Wp (mthQ g ms ρ x S1) Q E) E := by with_unfolding_all exact PVZ.Q_mthL
theorem Q_mthS {g : G2} : Wp (mthS g a b ρ S) Q E = Wp (a ρ S) (fun x S1 => Wp (if isStr x = true then (b ρ S1).bind fun y S2 => g x y S2 else .no) Q E) E := by with_unfolding_all exact PVZ.Q_mthS
theorem Q_isStr {z : Str} {o o' : Out D} : Wp (if isStr (.str z) = true then o else o') Q E = Wp o Q E := by with_unfolding_all exact PVZ.Q_isStr
theorem Q_itemsF {g : Fn} : Wp (itemsF g m ρ S) Q E = Wp (m ρ S) (fun d S1 => Wp (match d with
  | .lst xs => g xs S1
  | .tup xs => g xs S1
  | .loc n => match S1[n]? with
    | some (.lst xs) => g xs S1
    | _ => .no
  | _ => .no) Q E) E := by with_unfolding_all exact PVZ.Q_itemsF
theorem Q_sli {l h : MO} : Wp (sli m l h ρ S) Q E = Wp (m ρ S) (fun x S1 => Wp (l ρ S1) (fun lo S2 => Wp (h ρ S2) (fun hi S3 => Wp (slG x lo hi S3) Q E) E) E) E := by with_unfolding_all exact PVZ.Q_sli
theorem Q_oNo {Q : Option Int → Sto → Prop} : Wp (oNo ρ S) Q E = Q none S := by with_unfolding_all exact PVZ.Q_oNo
theorem Q_oSo {Q : Option Int → Sto → Prop} : Wp (oSo m ρ S) Q E = Wp (m ρ S) (fun d S1 => Wp (match d with | .int i => Out.ok (some i) S1 | _ => .no) Q E) E := by with_unfolding_all exact PVZ.Q_oSo
variable {i j : Int}
theorem Q_add : Wp (addG (.int i) (.int j) S) Q E = Q (.int (i + j)) S := by with_unfolding_all exact PVZ.Q_add
theorem Q_addI : Wp (addI (.int i) (.int j) S) Q E = Q (.int (i + j)) S := by with_unfolding_all exact PVZ.Q_addI
theorem Q_sub : Wp (subG (.int i) (.int j) S) Q E = Q (.int (i - j)) S := by with_unfolding_all exact PVZ.Q_sub
theorem Q_neg : Wp (negG (.int i) S) Q E = Q (.int (-i)) S := by with_unfolding_all exact PVZ.Q_neg
theorem Q_eqI : Wp (eqG false (.int i) (.int j) S) Q E = Q (.bl (decide (i = j))) S := by with_unfolding_all exact PVZ.Q_eqI
theorem Q_neI : Wp (eqG true (.int i) (.int j) S) Q E = Q (.bl (!decide (i = j))) S := by with_unfolding_all exact PVZ.Q_neI
theorem Q_lt : Wp (ltG (.int i) (.int j) S) Q E = Q (.bl (decide (i < j))) S := by with_unfolding_all exact PVZ.Q_lt
theorem Q_le : Wp (leG (.int i) (.int j) S) Q E = Q (.bl (decide (i ≤ j))) S := by with_unfolding_all exact PVZ.Q_le
theorem Q_gt : Wp (gtG (.int i) (.int j) S) Q E = Q (.bl (decide (j < i))) S := by with_unfolding_all exact PVZ.Q_gt
theorem Q_ge : Wp (geG (.int i) (.int j) S) Q E = Q (.bl (decide (j ≤ i))) S := by with_unfolding_all exact PVZ.Q_ge
theorem Q_isN {n : Bool} : Wp (isG n x .non S) Q E = Q (.bl (n ^^ isNon x)) S := by with_unfolding_all exact PVZ.Q_isN
theorem Q_int : Wp (intB [.int i] S) Q E = Q (.int i) S := by with_unfolding_all exact PVZ.Q_int
theorem Q_intb {b : Bool} : Wp (intB [.bl b] S) Q E = Q (.int (if b = true then 1 else 0)) S := by with_unfolding_all exact PVZ.Q_intb
theorem Q_abs : Wp (absB [.int i] S) Q E = Q (.int (if i < 0 then -i else i)) S := by with_unfolding_all exact PVZ.Q_abs
variable {xs ys : List D}
theorem Q_lenl : Wp (lenB [.lst xs] S) Q E = Q (.int xs.length) S := by with_unfolding_all exact PVZ.Q_lenl
theorem Q_lent : Wp (lenB [.tup xs] S) Q E = Q (.int xs.length) S := by with_unfolding_all exact PVZ.Q_lent
theorem Q_tupl : Wp (tupB [.lst xs] S) Q E = Q (.tup xs) S := by with_unfolding_all exact PVZ.Q_tupl
theorem Q_tupt : Wp (tupB [.tup xs] S) Q E = Q (.tup xs) S := by with_unfolding_all exact PVZ.Q_tupt
theorem Q_listl : Wp (listB [.lst xs] S) Q E = Q (.lst xs) S := by with_unfolding_all exact PVZ.Q_listl
theorem Q_listt : Wp (listB [.tup xs] S) Q E = Q (.lst xs) S := by with_unfolding_all exact PVZ.Q_listt
theorem Q_onlyB {o : Out D} : Wp (onlyB o) Q E = Wp o (fun d S1 => Wp (match d with | .bl b => .ok (.bl b) S1 | _ => .no) Q E) E := by with_unfolding_all exact PVZ.Q_onlyB
theorem Q_notB {o : Out D} : Wp (notB o) Q E = Wp o (fun d S1 => Wp (match d with | .bl b => .ok (.bl (!b)) S1 | _ => .no) Q E) E := by with_unfolding_all exact PVZ.Q_notB
end
section
variable {S : Sto} {E : XQ} {Q : D → Sto → Prop}
theorem Q_ixt0 {a : D} {xs : List D} : Wp (ixG (.tup (a :: xs)) (.int 0) S) Q E = Q a S := by with_unfolding_all exact PVZ.Q_ixt0
theorem Q_ixt1 {a b : D} {xs : List D} : Wp (ixG (.tup (a :: b :: xs)) (.int 1) S) Q E = Q b S := by with_unfolding_all exact PVZ.Q_ixt1
theorem Q_ixt2 {a b c : D} {xs : List D} : Wp (ixG (.tup (a :: b :: c :: xs)) (.int 2) S) Q E = Q c S := by with_unfolding_all exact PVZ.Q_ixt2
theorem Q_ixt3 {a b c d : D} {xs : List D} : Wp (ixG (.tup (a :: b :: c :: d :: xs)) (.int 3) S) Q E = Q d S := by with_unfolding_all exact PVZ.Q_ixt3
theorem Q_ixl0 {a : D} {xs : List D} : Wp (ixG (.lst (a :: xs)) (.int 0) S) Q E = Q a S := by with_unfolding_all exact PVZ.Q_ixl0
theorem Q_ixl1 {a b : D} {xs : List D} : Wp (ixG (.lst (a :: b :: xs)) (.int 1) S) Q E = Q b S := by with_unfolding_all exact PVZ.Q_ixl1
theorem Q_ixl2 {a b c : D} {xs : List D} : Wp (ixG (.lst (a :: b :: c :: xs)) (.int 2) S) Q E = Q c S := by with_unfolding_all exact PVZ.Q_ixl2
theorem Q_ixl3 {a b c d : D} {xs : List D} : Wp (ixG (.lst (a :: b :: c :: d :: xs)) (.int 3) S) Q E = Q d S := by with_unfolding_all exact PVZ.Q_ixl3
end
section
variable {ρ : Ev} {S : Sto} {N : Ev → Sto → Prop} {R : D → Sto → Prop} {B C : Ev → Sto → Prop} {E : XQ} {a b : MS} {m o : ME} {t : MT} {ms : MA}
theorem Q_seq : Ws (sSeq a b ρ S) N R B C E = Ws (a ρ S) (fun ρ' S' => Ws (b ρ' S') N R B C E) R B C E := by with_unfolding_all exact PVZ.Q_seq
theorem Q_sNil : Ws (sNil ρ S) N R B C E = N ρ S := by with_unfolding_all exact PVZ.Q_sNil
theorem Q_ret : Ws (sRet m ρ S) N R B C E = Wp (m ρ S) R E := by with_unfolding_all exact PVZ.Q_ret
theorem Q_retN : Ws (sRetN ρ S) N R B C E = R .non S := by with_unfolding_all exact PVZ.Q_retN
theorem Q_exp : Ws (sExp m ρ S) N R B C E = Wp (m ρ S) (fun _ S1 => N ρ S1) E := by with_unfolding_all exact PVZ.Q_exp
theorem Q_set {i : Nat} : Ws (sSet i m ρ S) N R B C E = Wp (m ρ S) (fun d S1 => N (ρ.set i (some d)) S1) E := by with_unfolding_all exact PVZ.Q_set
theorem Q_if : Ws (sIf t a b ρ S) N R B C E = Wp (t ρ S) (fun c S1 => Ws (if c = true then a ρ S1 else b ρ S1) N R B C E) E := by with_unfolding_all exact PVZ.Q_if
theorem Q_brk : Ws (sBrk ρ S) N R B C E = B ρ S := by with_unfolding_all exact PVZ.Q_brk
theorem Q_cnt : Ws (sCnt ρ S) N R B C E = C ρ S := by with_unfolding_all exact PVZ.Q_cnt
theorem Q_st {o o' : Out Fl} : Ws (if true = true then o else o') N R B C E = Ws o N R B C E := by with_unfolding_all exact PVZ.Q_st
theorem Q_sf {o o' : Out Fl} : Ws (if false = true then o else o') N R B C E = Ws o' N R B C E := by with_unfolding_all exact PVZ.Q_sf
theorem Q_nx : Ws (.ok (.nx ρ) S) N R B C E = N ρ S := by with_unfolding_all exact PVZ.Q_nx
theorem Q_sT {h : Decidable True} {o o' : Out Fl} : Ws (@ite _ True h o o') N R B C E = Ws o N R B C E := by with_unfolding_all exact PVZ.Q_sT
theorem Q_sF {h : Decidable False} {o o' : Out Fl} : Ws (@ite _ False h o o') N R B C E = Ws o' N R B C E := by with_unfolding_all exact PVZ.Q_sF
theorem ws_dt {p : Prop} [Decidable p] {o o' : Out Fl} (h : p) (q : Ws o N R B C E) : Ws (if decide p = true then o else o') N R B C E := by with_unfolding_all exact PVZ.ws_dt h q
theorem ws_df {p : Prop} [Decidable p] {o o' : Out Fl} (h : ¬ p) (q : Ws o' N R B C E) : Ws (if decide p = true then o else o') N R B C E := by with_unfolding_all exact PVZ.ws_df h q
theorem ws_nf {p : Prop} [Decidable p] {o o' : Out Fl} (h : p) (q : Ws o' N R B C E) : Ws (if (!decide p) = true then o else o') N R B C E := by with_unfolding_all exact PVZ.ws_nf h q
theorem Q_par {i j : Nat} : Ws (sPar i j ms ρ S) N R B C E = Wp (ms ρ S) (fun ds S1 => Ws (parQ i j ρ ds S1) N R B C E) E := by with_unfolding_all exact PVZ.Q_par
theorem Q_parQ {i j : Nat} {d e : D} : Ws (parQ i j ρ [d, e] S) N R B C E = N ((ρ.set i (some d)).set j (some e)) S := by with_unfolding_all exact PVZ.Q_parQ
theorem Q_asg {T : Tg} : Ws (sAsg T m ρ S) N R B C E = Wp (m ρ S) (fun d S1 => Ws (asgQ T d ρ S1) N R B C E) E := by with_unfolding_all exact PVZ.Q_asg
theorem Q_asgN {i : Nat} {d : D} : Ws (asgQ (.nm i) d ρ S) N R B C E = N (ρ.set i (some d)) S := by with_unfolding_all exact PVZ.Q_asgN
theorem Q_asg2 {i j : Nat} {d e : D} : Ws (asgQ (.tp [i, j]) (.tup [d, e]) ρ S) N R B C E = N ((ρ.set i (some d)).set j (some e)) S := by with_unfolding_all exact PVZ.Q_asg2
theorem Q_asg3 {i j l : Nat} {d e f : D} : Ws (asgQ (.tp [i, j, l]) (.tup [d, e, f]) ρ S) N R B C E = N (((ρ.set i (some d)).set j (some e)).set l (some f)) S := by with_unfolding_all exact PVZ.Q_asg3
theorem Q_asg4 {i j l n : Nat} {d e f g : D} : Ws (asgQ (.tp [i, j, l, n]) (.tup [d, e, f, g]) ρ S) N R B C E = N ((((ρ.set i (some d)).set j (some e)).set l (some f)).set n (some g)) S := by with_unfolding_all exact PVZ.Q_asg4
theorem ws_asgQ {T : Tg} {d : D} {ρ' : Ev} (e : setT T d ρ = some ρ') (q : N ρ' S) : Ws (asgQ T d ρ S) N R B C E := by with_unfolding_all exact PVZ.ws_asgQ e q
theorem Q_aug {i : Nat} {g : G2} : Ws (sAug i g m ρ S) N R B C E = Wp (v i ρ S) (fun x S' => Ws (augQ i g m ρ x S') N R B C E) E := by with_unfolding_all exact PVZ.Q_aug
theorem Q_augQ {i : Nat} {g : G2} {x : D} : Ws (augQ i g m ρ x S) N R B C E = Wp (m ρ S) (fun y S1 => Wp (g x y S1) (fun z S2 => N (ρ.set i (some z)) S2) E) E := by with_unfolding_all exact PVZ.Q_augQ
variable {Q : List D × Option Nat → Sto → Prop} {d : D}
theorem Q_iSeq : Wp (iSeq m ρ S) Q E = Wp (m ρ S) (fun d S1 => Wp (seqQ d S1) Q E) E := by with_unfolding_all exact PVZ.Q_iSeq
theorem Q_seqL {xs : List D} : Wp (seqQ (.lst xs) S) Q E = Q (xs, none) S := by with_unfolding_all exact PVZ.Q_seqL
theorem Q_seqT {xs : List D} : Wp (seqQ (.tup xs) S) Q E = Q (xs, none) S := by with_unfolding_all exact PVZ.Q_seqT
theorem Q_seqS {z : Str} : Wp (seqQ (.str z) S) Q E = Q (signs z, none) S := by with_unfolding_all exact PVZ.Q_seqS
theorem Q_iR1 : Wp (iR1 ms ρ S) Q E = Wp (ms ρ S) (fun ds S1 => Wp (r1Q ds S1) Q E) E := by with_unfolding_all exact PVZ.Q_iR1
theorem Q_iR2 : Wp (iR2 ms ρ S) Q E = Wp (ms ρ S) (fun ds S1 => Wp (r2Q ds S1) Q E) E := by with_unfolding_all exact PVZ.Q_iR2
theorem wp_r1Q {j : Int} (h : near62 j = true) (q : Q (ups 0 j.toNat, none) S) : Wp (r1Q [.int j] S) Q E := by with_unfolding_all exact PVZ.wp_r1Q h q
theorem wp_r2Q {i j : Int} (h : near62 i = true) (h' : near62 j = true) (q : Q (ups i (j - i).toNat, none) S) : Wp (r2Q [.int i, .int j] S) Q E := by with_unfolding_all exact PVZ.wp_r2Q h h' q
theorem Q_iEn : Wp (iEn ms ρ S) Q E = Wp (ms ρ S) (fun ds S1 => Wp (enD ds S1) Q E) E := by with_unfolding_all exact PVZ.Q_iEn
theorem Q_iZp : Wp (iZp ms ρ S) Q E = Wp (ms ρ S) (fun ds S1 => Wp (zpD ds S1) Q E) E := by with_unfolding_all exact PVZ.Q_iZp
theorem Q_zpl {xs ys : List D} : Wp (zpD [.lst xs, .lst ys] S) Q E = Q (zipD xs ys, none) S := by with_unfolding_all exact PVZ.Q_zpl
theorem Q_zpt {xs ys : List D} : Wp (zpD [.tup xs, .tup ys] S) Q E = Q (zipD xs ys, none) S := by with_unfolding_all exact PVZ.Q_zpt
end
section
variable {α : Type} {E : XQ} {S : Sto} {ρ : Ev} {Q : D → Sto → Prop} {m : ME} {ms : MA}
theorem Q_frz : Wp (frzE m ρ S) Q E = Wp (m ρ S) (fun d S1 => Wp (frzQ d S1) Q E) E := by with_unfolding_all exact PVZ.Q_frz
theorem Q_lns : Wp (lnsE m ρ S) Q E = Wp (m ρ S) (fun d S1 => Wp (lnsQ d S1) Q E) E := by with_unfolding_all exact PVZ.Q_lns
theorem wp_lnsQ {ys : List Str} (h : ys.Nodup) (h2 : ys.length < 4000) (q : Q (.int ys.length) S) : Wp (lnsQ (.lst (ys.map .str)) S) Q E := by with_unfolding_all exact PVZ.wp_lnsQ h h2 q
theorem Q_dc {kvs : List (Str × Cst)} : Wp (dcE kvs ρ S) Q E = Q (.hob (.dK (L2.mergeK [] (kvV kvs)))) S := by with_unfolding_all exact PVZ.Q_dc
theorem Q_iEs {Q : List D × Option Nat → Sto → Prop} : Wp (iEs ms ρ S) Q E = Wp (ms ρ S) (fun ds S1 => Wp (ensD ds S1) Q E) E := by with_unfolding_all exact PVZ.Q_iEs
theorem Q_ens {Q : List D × Option Nat → Sto → Prop} {z : Str} : Wp (ensD [.str z] S) Q E = Q (numbered 0 (signs z), none) S := by with_unfolding_all exact PVZ.Q_ens
theorem Q_enl {Q : List D × Option Nat → Sto → Prop} {xs : List D} : Wp (enD [.lst xs] S) Q E = Q (numbered 0 xs, none) S := by with_unfolding_all exact PVZ.Q_enl
theorem Q_ent {Q : List D × Option Nat → Sto → Prop} {xs : List D} : Wp (enD [.tup xs] S) Q E = Q (numbered 0 xs, none) S := by with_unfolding_all exact PVZ.Q_ent
end
section
variable {ρ : Ev} {S : Sto} {N : Ev → Sto → Prop} {R : D → Sto → Prop} {B C : Ev → Sto → Prop} {E : XQ} {m o i : ME}
end
end PV
set_option Elab.async false
set_option linter.all false
set_option maxRecDepth 100000
set_option maxHeartbeats 4000000
namespace PV
open PySem
abbrev nX : XQ := fun _ _ _ => False
theorem eq_of_wp {α : Type} {o : Out α} {d : α} {S : Sto} (h : Wp o (fun d' S' => d' = d ∧ S' = S) nX) : o = .ok d S := by
  obtain ⟨a, S', e, rfl, rfl⟩ := Wp.of h
  exact e
/-! ### drawing -/
theorem atI_ok {xs : List D} {r : Int} (h0 : 0 ≤ r) (h1 : r < xs.length) : ∃ x, L2.atI xs r = some x ∧ xs[r.toNat]? = some x := by
  have h2 : r.toNat < xs.length := by omega
  refine ⟨xs[r.toNat], ?_, by rw [List.getElem?_eq_getElem h2]⟩
  unfold L2.atI L2.ixN
  rw [if_pos h0, if_pos h1]
  exact List.getElem?_eq_getElem h2
/-- what a law's own draw promises -/
def DrawS (F : Fn) : Prop := ∀ {S : Sto} {p : Nat} {B m : Int} {Q : D → Sto → Prop} {E : XQ}, Pen S p B → B ≤ 1000000 → 1 ≤ m → m < 2 ^ 110 → (∀ r S', 0 ≤ r → r < m → SamePen p S S' → Pen S' p (B + 1) → Q (.int r) S') → Wp (F [.loc p, .int m] S) Q E
/-- .. its own pick -/
def PickS (F : Fn) : Prop := ∀ {S : Sto} {p : Nat} {B : Int} {xs : List D} {Q : D → Sto → Prop} {E : XQ}, Pen S p B → B ≤ 1000000 → 1 ≤ xs.length → xs.length ≤ 1000 → (∀ (i : Nat) x S', xs[i]? = some x → SamePen p S S' → Pen S' p (B + 1) → Q x S') → Wp (F [.loc p, .lst xs] S) Q E
theorem pickS_of {F : Fn} (hF : DrawS F) : PickS (dfn 2 2 (sSeq (sRet (bin ixG (v 1) (cal F (aCons (v 0) (aCons (cal lenB (aCons (v 1) (aNil))) (aNil)))))) (sNil))) := by
  intro S p B xs Q E h hB h0 h1 q
  refine wp_dfn rfl ?_
  (repeat (first | simp -dsimp -implicitDefEqProofs only [Q_ok, Q_ex, Q_v0, Q_vs, Q_k, Q_bin, Q_una, Q_cal, Q_nil, Q_cons, Q_star, Q_tst, Q_tru, Q_no, Q_an, Q_or, Q_ifE, Q_anE, Q_orE, Q_anD, Q_orD, Q_noE, Q_chn, Q_chD, Q_t, Q_f, Q_T, Q_F, Q_tup, Q_lst, Q_lstM, Q_cm, Q_sm, Q_mt, Q_mtK, Q_mthL, Q_mthS, Q_isStr, Q_itemsF, Q_sli, Q_oNo, Q_oSo, Q_add, Q_addI, Q_sub, Q_neg, Q_eqI, Q_neI, Q_lt, Q_le, Q_gt, Q_ge, Q_isN, Q_int, Q_intb, Q_abs, Q_lenl, Q_lent, Q_tupl, Q_tupt, Q_listl, Q_listt, Q_onlyB, Q_notB, Q_ixt0, Q_ixt1, Q_ixt2, Q_ixt3, Q_ixl0, Q_ixl1, Q_ixl2, Q_ixl3, Q_seq, Q_sNil, Q_ret, Q_retN, Q_exp, Q_set, Q_if, Q_brk, Q_cnt, Q_st, Q_sf, Q_nx, Q_sT, Q_sF, Q_par, Q_parQ, Q_asg, Q_asgN, Q_asg2, Q_asg3, Q_asg4, Q_aug, Q_augQ, Q_iSeq, Q_seqL, Q_seqT, Q_seqS, Q_iR1, Q_iR2, Q_iEn, Q_iZp, Q_zpl, Q_zpt, Q_bind, Q_sbind, truD, List.map_cons, List.map_nil, List.cons_append, List.nil_append, Nat.reduceSub, List.reduceReplicate, List.set_cons_zero, List.set_cons_succ, Bool.not_true, Bool.not_false, Bool.not_not, Bool.false_xor, Bool.true_xor, Bool.false_eq_true, and_self, true_and, and_true, wipeD, Tg.slots] | ((with_reducible apply wp_fld); (focus rfl); (focus rfl); (focus rfl)) | ((with_reducible apply wp_isi); (focus rfl)) | ((with_reducible apply wp_isiA); (focus rfl)) | ((with_reducible apply wp_lstQ); (focus exact Nat.le_of_ble_eq_true rfl)) | ((with_reducible apply wp_tupQ); (focus exact Nat.le_of_ble_eq_true rfl)) | ((with_reducible apply wp_lstMQ); (focus exact Nat.le_of_ble_eq_true rfl)) | ((with_reducible apply wp_mtQ); (focus rfl); (focus rfl); (focus rfl)) | ((with_reducible apply wp_mtKQ); (focus rfl); (focus rfl)) | ((with_reducible apply wp_r1Q); (focus exact near62_of (by omega) (by omega))) | ((with_reducible apply wp_r2Q); (focus exact near62_of (by omega) (by omega)); (focus exact near62_of (by omega) (by omega))) | ((with_reducible apply wp_ofLen); (focus rfl)) | ((with_reducible apply wp_kw); (focus rfl)) | ((with_reducible apply ws_asgQ); (focus rfl)) | ((with_reducible apply ex1); (focus rfl)) | ((with_reducible apply And.intro); (focus rfl)) | with_reducible exact gq_same ⟨rfl, rfl⟩ | with_reducible exact ⟨rfl, rfl⟩))
  refine hF h hB (by omega) (by omega) fun r S' r0 r1 s1 p1 => ?_
  obtain ⟨x, e1, e2⟩ := atI_ok (xs := xs) r0 r1
  refine wp_ixl e1 ?_
  exact gq_len s1.len (q _ x S' e2 s1 p1)
theorem pick_mem {xs : List D} {i : Nat} {x : D} (h : xs[i]? = some x) : x ∈ xs := List.mem_of_getElem? h
theorem pick_ints {ns : List Int} {i : Nat} {x : D} (h : (ns.map D.int)[i]? = some x) : ∃ n ∈ ns, x = .int n := by
  rw [List.getElem?_map] at h
  obtain ⟨n, hn, rfl⟩ := Option.map_eq_some_iff.mp h
  exact ⟨n, List.mem_of_getElem? hn, rfl⟩
theorem gq_nil {d : D} {S' : Sto} {Q : D → Sto → Prop} {E : XQ} (h : d.und 0 = true) (q : Q d []) : Gq [] Q E d S' := by
  classical
  have e : gcO [] (.ok d S') = .ok d [] := by
    show (if d.und ([] : Sto).length = true ∧ Kept [] S' then Out.ok d (S'.take ([] : Sto).length) else .ok d S') = _
    rw [if_pos ⟨h, fun i c hi _ => absurd hi (Nat.not_lt_zero _)⟩]
    rfl
  unfold Gq
  exact wp_eq e q
theorem law_of {F : Fn} {ds : List D} (h : Wp (F ds []) (fun d _ => d = .bl true) nX) : ∃ S', F ds [] = .ok (.bl true) S' := by
  obtain ⟨d, S', e, rfl⟩ := Wp.of h
  exact ⟨S', e⟩
end PV
set_option Elab.async false
set_option linter.all false
set_option maxRecDepth 100000
set_option maxHeartbeats 4000000
/-! comprehensions over typed lists; texts of signs -/
namespace PV
open PySem
theorem filter_take {α : Type} (p : α → Bool) {ns : List α} {j : Nat} {a : α} (h : ns[j]? = some a) : (ns.take (j + 1)).filter p = (ns.take j).filter p ++ (if p a = true then [a] else []) := by
  rw [List.take_add_one, h, List.filter_append]
  congr 1
  cases e : p a <;> simp [e]
theorem wp_lcT {α : Type} {T : Tg} {it : MI} {t : MT} {e : ME} {ρ : Ev} {S : Sto} {ns : List α} {Q : D → Sto → Prop} {E : XQ} (g : α → D) (p : α → Bool) (f : α → D)
    (hi : Wp (it ρ S) (fun q S' => q = (ns.map g, none) ∧ S' = S) nX) (hl : ns.length ≤ 1000)
    (h : ∀ a ∈ ns, ∃ ρ1, setT T (g a) (wipeD ρ T.slots) = some ρ1 ∧ Wp (t ρ1 S) (fun c S1 => c = p a ∧ S1 = S) nX ∧ (p a = true → Wp (e ρ1 S) (fun d S2 => d = f a ∧ S2 = S) nX))
    (q : Q (.lst ((ns.filter p).map f)) S) : Wp (lcE T it t e ρ S) Q E := by
  refine wp_lcE (wp_lcO (fun n acc S' => S' = S ∧ acc = ((ns.take n).filter p).map f) (wp_eq (eq_of_wp hi) ⟨?_, fun _ _ _ _ => trivial, ⟨rfl, by simp⟩, ?_, ?_⟩))
  · show (ns.map g).length ≤ 1000
    rw [List.length_map]
    exact hl
  · rintro n x hx acc S' ⟨rfl, rfl⟩
    have hx : (ns.map g)[n]? = some x := hx
    rw [List.getElem?_map] at hx
    obtain ⟨a, ha, rfl⟩ := Option.map_eq_some_iff.mp hx
    obtain ⟨ρ1, e1, w1, w2⟩ := h a (List.mem_of_getElem? ha)
    refine ⟨ρ1, e1, w1.imp (fun c S1 hc => ?_) fun _ _ _ q => q⟩
    obtain ⟨rfl, rfl⟩ := hc
    refine ⟨fun c => (w2 c).imp (fun d S2 hd => ?_) fun _ _ _ q => q, fun c => ?_⟩
    · obtain ⟨rfl, rfl⟩ := hd
      refine ⟨rfl, ?_⟩
      rw [filter_take p ha, if_pos c, List.map_append]
      rfl
    · refine ⟨rfl, ?_⟩
      rw [filter_take p ha, if_neg (by rw [c]; decide), List.append_nil]
  · rintro acc S' ⟨rfl, e⟩
    rw [List.take_of_length_le (by show _ ≤ (ns.map g).length; rw [List.length_map]; omega)] at e
    subst e
    exact q
/-- without a test -/
theorem wp_lcU {α : Type} {T : Tg} {it : MI} {e : ME} {ρ : Ev} {S : Sto} {ns : List α} {Q : D → Sto → Prop} {E : XQ} (g : α → D) (f : α → D)
    (hi : Wp (it ρ S) (fun q S' => q = (ns.map g, none) ∧ S' = S) nX) (hl : ns.length ≤ 1000)
    (h : ∀ a ∈ ns, ∃ ρ1, setT T (g a) (wipeD ρ T.slots) = some ρ1 ∧ Wp (e ρ1 S) (fun d S2 => d = f a ∧ S2 = S) nX)
    (q : Q (.lst (ns.map f)) S) : Wp (lcE T it tYs e ρ S) Q E := by
  refine wp_lcT g (fun _ => true) f hi hl (fun a ha => ?_) ?_
  · obtain ⟨ρ1, e1, w⟩ := h a ha
    exact ⟨ρ1, e1, wp_ok ⟨rfl, rfl⟩, fun _ => w⟩
  · rw [List.filter_eq_self.mpr (fun _ _ => rfl)]
    exact q
theorem asInts_mapT {α : Type} (f : α → Int) (ns : List α) : asInts (ns.map fun a => D.int (f a)) = some (ns.map f) := by
  rw [show (ns.map fun a => D.int (f a)) = (ns.map f).map D.int by rw [List.map_map]; rfl]
  exact asInts_map _
theorem asBools_mapT {α : Type} (f : α → Bool) (ns : List α) : asBools (ns.map fun a => D.bl (f a)) = some (ns.map f) := by
  rw [show (ns.map fun a => D.bl (f a)) = (ns.map f).map D.bl by rw [List.map_map]; rfl]
  exact asBools_map _
theorem wp_allT {α : Type} {S : Sto} {Q : D → Sto → Prop} {E : XQ} {f : α → Bool} {ns : List α} (q : Q (.bl ((ns.map f).all id)) S) : Wp (allB [.lst (ns.map fun a => D.bl (f a))] S) Q E := by
  refine wp_eq (a := .bl ((ns.map f).all id)) (S := S) ?_ q
  unfold allB
  simp only [asBools_mapT]
theorem ups_map (n : Nat) : ups 0 n = (List.range n).map fun (i : Nat) => D.int i := by
  unfold ups
  simp
theorem sizeLine_eq : sizeLine = 16777216 := by decide
/-! signs -/
def mkS (cs : List Nat) : Str := ⟨cs.toArray⟩
abbrev oneS (c : Nat) : Str := ⟨#[c]⟩
theorem mkS_len (cs : List Nat) : (mkS cs).length = cs.length := rfl
theorem signs_mkS (cs : List Nat) : signs (mkS cs) = cs.map fun c => D.str (oneS c) := by
  simp [signs, mkS]
theorem mkS_app (a b : List Nat) : mkS a ++ mkS b = mkS (a ++ b) := by
  show Str.mk _ = Str.mk _
  simp [mkS]
theorem oneS_eq (c : Nat) : oneS c = mkS [c] := rfl
theorem strIn_one (c : Nat) (z : Str) : strIn (oneS c) z = decide (c ∈ z.cps.toList) := StrLaws.found_one z c
theorem wp_lens {z : Str} {S : Sto} {Q : D → Sto → Prop} {E : XQ} (h : z.length ≤ 1000) (q : Q (.int z.length) S) : Wp (lenB [.str z] S) Q E := by
  refine wp_eq (a := .int z.length) (S := S) ?_ q
  show (if z.length ≤ sizeLine then _ else _) = _
  rw [if_pos (by rw [sizeLine_eq]; omega)]
theorem wp_in {n : Bool} {c : Nat} {z : Str} {S : Sto} {Q : D → Sto → Prop} {E : XQ} (q : Q (.bl (n ^^ decide (c ∈ z.cps.toList))) S) : Wp (inG n (.str (oneS c)) (.str z) S) Q E := by
  refine wp_eq (a := .bl (n ^^ decide (c ∈ z.cps.toList))) (S := S) ?_ q
  rw [← strIn_one]
  rfl
theorem oneS_inj {c d : Nat} (h : oneS c = oneS d) : c = d := by
  have h1 := congrArg (fun z : Str => z.cps.toList) h
  simpa using h1
theorem wp_lnsT {α : Type} {f : α → Str} {ns : List α} {S : Sto} {Q : D → Sto → Prop} {E : XQ} (h : (ns.map f).Nodup) (h2 : ns.length < 4000) (q : Q (.int ns.length) S) : Wp (lnsQ (.lst (ns.map fun a => D.str (f a))) S) Q E := by
  rw [show (ns.map fun a => D.str (f a)) = (ns.map f).map D.str by rw [List.map_map]; rfl]
  exact wp_lnsQ h (by rw [List.length_map]; exact h2) (by rw [List.length_map]; exact q)
theorem nodup_ones {cs : List Nat} (h : cs.Nodup) : (cs.map oneS).Nodup := List.pairwise_map.mpr (h.imp fun hn e => hn (oneS_inj e))
theorem wp_ixs {cs : List Nat} {i : Int} {c : Nat} {S : Sto} {Q : D → Sto → Prop} {E : XQ} (h0 : 0 ≤ i) (h : cs[i.toNat]? = some c) (hl : cs.length ≤ 1000) (q : Q (.str (oneS c)) S) : Wp (ixG (.str (mkS cs)) (.int i) S) Q E := by
  refine wp_eq (a := .str (oneS c)) (S := S) ?_ q
  unfold ixG
  have e1 : ¬ i < 0 := by omega
  have hi : i.toNat < cs.length := (List.getElem?_eq_some_iff.mp h).1
  have e2 : (mkS cs).length ≤ sizeLine := by rw [mkS_len, sizeLine_eq]; omega
  have e3 : L2.atI (mkS cs).cps.toList i = some c := by
    unfold L2.atI L2.ixN
    rw [if_pos h0]
    have e4 : (mkS cs).cps.toList = cs := by simp [mkS]
    rw [e4, if_pos (by omega)]
    exact h
  simp only [e2, if_true, e3]
end PV
set_option Elab.async false
set_option linter.all false
set_option maxRecDepth 100000
set_option maxHeartbeats 4000000
/-! plain runs: errors, lambdas, three names at once -/
namespace PVZ
open PySem PV
section
variable {α β : Type} {E : XQ} {S S1 : Sto} {ρ : Ev} {Q : D → Sto → Prop} {N : Ev → Sto → Prop} {R : D → Sto → Prop} {B C : Ev → Sto → Prop} {ms : MA} {m : ME} {c : String} {fs : List (String × D)}
def _root_.PV.parQ3 (i j l : Nat) (ρ : Ev) (ds : List D) (S1 : Sto) : Out Fl := match ds with
  | [a, b, c] => .ok (.nx (((ρ.set i (some a)).set j (some b)).set l (some c))) S1
  | _ => .no
theorem Q_par3 {i j l : Nat} : Ws (sPar3 i j l ms ρ S) N R B C E = Wp (ms ρ S) (fun ds S1 => Ws (parQ3 i j l ρ ds S1) N R B C E) E := Q_sbind
theorem Q_parc3 {i j l : Nat} {x y z : D} : Ws (parQ3 i j l ρ [x, y, z] S1) N R B C E = N (((ρ.set i (some x)).set j (some y)).set l (some z)) S1 := rfl
def _root_.PV.raiQ (c : String) (fl : List String) (ds : List D) (S1 : Sto) : Out Fl := if ds.length = fl.length then .ex c (fl.zip ds).reverse S1 else .no
theorem Q_rai {fl : List String} : Ws (sRai c fl ms ρ S) N R B C E = Wp (ms ρ S) (fun ds S1 => Ws (raiQ c fl ds S1) N R B C E) E := Q_sbind
theorem Q_rai0 : Ws (raiQ c [] [] S1) N R B C E = E c [] S1 := rfl
theorem Q_rai1 {f : String} {x : D} : Ws (raiQ c [f] [x] S1) N R B C E = E c [(f, x)] S1 := rfl
theorem Q_rai2 {f g : String} {x y : D} : Ws (raiQ c [f, g] [x, y] S1) N R B C E = E c [(g, y), (f, x)] S1 := rfl
theorem Q_gxs : Gx S Q E c fs S = E c fs S := by
  unfold Gx
  rw [gc_samex]
  rfl
theorem wp_isx {τ : List (String × Bool)} {cls : D → Bool} {g : Fn} {ds : List D} {d : D} (e : isiX τ cls g ds S = .ok d S) (q : Q d S) : Wp (isiX τ cls g ds S) Q E := wp_eq e q
theorem wp_fldx {cs : List String} {f : String} {g : G1} {x d : D} (e : fldX cs f g x S = .ok d S) (q : Q d S) : Wp (fldX cs f g x S) Q E := wp_eq e q
end
end PVZ
namespace PV
open PySem
section
variable {α β : Type} {E : XQ} {S S1 : Sto} {ρ : Ev} {Q : D → Sto → Prop} {N : Ev → Sto → Prop} {R : D → Sto → Prop} {B C : Ev → Sto → Prop} {ms : MA} {m : ME} {c : String} {fs : List (String × D)}
theorem Q_par3 {i j l : Nat} : Ws (sPar3 i j l ms ρ S) N R B C E = Wp (ms ρ S) (fun ds S1 => Ws (parQ3 i j l ρ ds S1) N R B C E) E := by with_unfolding_all exact PVZ.Q_par3
theorem Q_parc3 {i j l : Nat} {x y z : D} : Ws (parQ3 i j l ρ [x, y, z] S1) N R B C E = N (((ρ.set i (some x)).set j (some y)).set l (some z)) S1 := by with_unfolding_all exact PVZ.Q_parc3
theorem Q_rai {fl : List String} : Ws (sRai c fl ms ρ S) N R B C E = Wp (ms ρ S) (fun ds S1 => Ws (raiQ c fl ds S1) N R B C E) E := by with_unfolding_all exact PVZ.Q_rai
theorem Q_rai0 : Ws (raiQ c [] [] S1) N R B C E = E c [] S1 := by with_unfolding_all exact PVZ.Q_rai0
theorem Q_rai1 {f : String} {x : D} : Ws (raiQ c [f] [x] S1) N R B C E = E c [(f, x)] S1 := by with_unfolding_all exact PVZ.Q_rai1
theorem Q_rai2 {f g : String} {x y : D} : Ws (raiQ c [f, g] [x, y] S1) N R B C E = E c [(g, y), (f, x)] S1 := by with_unfolding_all exact PVZ.Q_rai2
theorem Q_gxs : Gx S Q E c fs S = E c fs S := by with_unfolding_all exact PVZ.Q_gxs
theorem wp_isx {τ : List (String × Bool)} {cls : D → Bool} {g : Fn} {ds : List D} {d : D} (e : isiX τ cls g ds S = .ok d S) (q : Q d S) : Wp (isiX τ cls g ds S) Q E := by with_unfolding_all exact PVZ.wp_isx e q
theorem wp_fldx {cs : List String} {f : String} {g : G1} {x d : D} (e : fldX cs f g x S = .ok d S) (q : Q d S) : Wp (fldX cs f g x S) Q E := by with_unfolding_all exact PVZ.wp_fldx e q
end
end PV
set_option Elab.async false
set_option linter.all false
set_option maxRecDepth 100000
set_option maxHeartbeats 4000000
/-! plain runs: what a heard def does behind its try; errors out of constructors -/
namespace PVZ
open PySem PV
section
variable {S S1 : Sto} {Q : D → Sto → Prop} {E : XQ} {c : String} {F : Fn} {ds : List D}
end
end PVZ
namespace PV
open PySem
section
variable {S S1 : Sto} {Q : D → Sto → Prop} {E : XQ} {c : String} {F : Fn} {ds : List D}
end
end PV
set_option Elab.async false
set_option linter.all false
set_option maxRecDepth 100000
set_option maxHeartbeats 4000000
/-! the bag that draws (laws k01 to k07, k46 to k49) -/
namespace PVZ
open PySem PV
section
variable {E : XQ} {S : Sto} {ρ : Ev} {N : Ev → Sto → Prop} {R : D → Sto → Prop} {B C : Ev → Sto → Prop} {m o i : ME}
end
end PVZ
namespace PV
open PySem
def bagC (cs : List Int) (a r st : Int) : Cell := .dic [("cells", .lst (cs.map .int)), ("at", .int a), ("rest", .int r), ("state", .int st)]
def Bag (S : Sto) (p : Nat) : Prop := ∃ cs a r st, S[p]? = some (bagC cs a r st) ∧ cs.length ≤ 63 ∧ 0 ≤ a ∧ a ≤ cs.length ∧ 0 ≤ r ∧ 0 ≤ st ∧ st < 2147483647
def SameBag (p : Nat) (S S' : Sto) : Prop := ∃ cs a r st, S' = S.set p (bagC cs a r st)
theorem Bag.lt {S : Sto} {p : Nat} (h : Bag S p) : p < S.length := by
  obtain ⟨cs, a, r, st, e, _⟩ := h
  exact (List.getElem?_eq_some_iff.mp e).1
theorem Bag.app {S T : Sto} {p : Nat} (h : Bag S p) : Bag (S ++ T) p := by
  obtain ⟨cs, a, r, st, e, z⟩ := id h
  exact ⟨cs, a, r, st, by rw [List.getElem?_append_left h.lt]; exact e, z⟩
theorem SameBag.refl {S : Sto} {p : Nat} (h : Bag S p) : SameBag p S S := by
  obtain ⟨cs, a, r, st, e, z⟩ := id h
  obtain ⟨hp, e2⟩ := List.getElem?_eq_some_iff.mp e
  exact ⟨cs, a, r, st, by rw [← e2, List.set_getElem_self]⟩
theorem SameBag.trans {S S' S'' : Sto} {p : Nat} (h : SameBag p S S') (h' : SameBag p S' S'') : SameBag p S S'' := by
  obtain ⟨cs, a, r, st, rfl⟩ := h
  obtain ⟨cs', a', r', st', rfl⟩ := h'
  exact ⟨cs', a', r', st', by rw [List.set_set]⟩
theorem SameBag.len {S S' : Sto} {p : Nat} (h : SameBag p S S') : S'.length = S.length := by
  obtain ⟨cs, a, r, st, rfl⟩ := h
  exact List.length_set ..
section
variable {E : XQ} {S : Sto} {ρ : Ev} {N : Ev → Sto → Prop} {R : D → Sto → Prop} {B C : Ev → Sto → Prop} {m o i : ME}
end
end PV
set_option Elab.async false
set_option linter.all false
set_option maxRecDepth 100000
set_option maxHeartbeats 4000000
/-! the bag's draw, and its making -/
local macro_rules | `(tactic| k_upd) => `(tactic| first | simp -dsimp -implicitDefEqProofs only [PV.Q_ok, PV.Q_ex, PV.Q_v0, PV.Q_vs, PV.Q_k, PV.Q_bin, PV.Q_una, PV.Q_cal, PV.Q_nil, PV.Q_cons, PV.Q_star, PV.Q_tst, PV.Q_tru, PV.Q_no, PV.Q_an, PV.Q_or, PV.Q_ifE, PV.Q_anE, PV.Q_orE, PV.Q_anD, PV.Q_orD, PV.Q_noE, PV.Q_chn, PV.Q_chD, PV.Q_t, PV.Q_f, PV.Q_T, PV.Q_F, PV.Q_tup, PV.Q_lst, PV.Q_lstM, PV.Q_cm, PV.Q_sm, PV.Q_mt, PV.Q_mtK, PV.Q_mthL, PV.Q_mthS, PV.Q_isStr, PV.Q_itemsF, PV.Q_sli, PV.Q_oNo, PV.Q_oSo, PV.Q_add, PV.Q_addI, PV.Q_sub, PV.Q_neg, PV.Q_eqI, PV.Q_neI, PV.Q_lt, PV.Q_le, PV.Q_gt, PV.Q_ge, PV.Q_isN, PV.Q_int, PV.Q_intb, PV.Q_abs, PV.Q_lenl, PV.Q_lent, PV.Q_tupl, PV.Q_tupt, PV.Q_listl, PV.Q_listt, PV.Q_onlyB, PV.Q_notB, PV.Q_ixt0, PV.Q_ixt1, PV.Q_ixt2, PV.Q_ixt3, PV.Q_ixl0, PV.Q_ixl1, PV.Q_ixl2, PV.Q_ixl3, PV.Q_seq, PV.Q_sNil, PV.Q_ret, PV.Q_retN, PV.Q_exp, PV.Q_set, PV.Q_if, PV.Q_brk, PV.Q_cnt, PV.Q_st, PV.Q_sf, PV.Q_nx, PV.Q_sT, PV.Q_sF, PV.Q_par, PV.Q_parQ, PV.Q_asg, PV.Q_asgN, PV.Q_asg2, PV.Q_asg3, PV.Q_asg4, PV.Q_aug, PV.Q_augQ, PV.Q_iSeq, PV.Q_seqL, PV.Q_seqT, PV.Q_seqS, PV.Q_iR1, PV.Q_iR2, PV.Q_iEn, PV.Q_iZp, PV.Q_zpl, PV.Q_zpt, PV.Q_frz, PV.Q_lns, PV.Q_dc, PV.Q_iEs, PV.Q_ens, PV.Q_enl, PV.Q_ent, PV.Q_par3, PV.Q_parc3, PV.Q_rai, PV.Q_rai0, PV.Q_rai1, PV.Q_rai2, PV.Q_gxs, PV.Q_bind, PV.Q_sbind, PV.truD, List.map_cons, List.map_nil, List.cons_append, List.nil_append, Nat.reduceSub, List.reduceReplicate, List.set_cons_zero, List.set_cons_succ, Bool.not_true, Bool.not_false, Bool.not_not, Bool.false_xor, Bool.true_xor, Bool.false_eq_true, and_self, true_and, and_true, PV.wipeD, PV.Tg.slots] | ((with_reducible apply PV.wp_fld); (focus rfl); (focus rfl); (focus rfl)) | ((with_reducible apply PV.wp_isi); (focus rfl)) | ((with_reducible apply PV.wp_isiA); (focus rfl)) | ((with_reducible apply PV.wp_lstQ); (focus exact Nat.le_of_ble_eq_true rfl)) | ((with_reducible apply PV.wp_tupQ); (focus exact Nat.le_of_ble_eq_true rfl)) | ((with_reducible apply PV.wp_lstMQ); (focus exact Nat.le_of_ble_eq_true rfl)) | ((with_reducible apply PV.wp_mtQ); (focus rfl); (focus rfl); (focus rfl)) | ((with_reducible apply PV.wp_mtKQ); (focus rfl); (focus rfl)) | ((with_reducible apply PV.wp_r1Q); (focus exact PV.near62_of (by omega) (by omega))) | ((with_reducible apply PV.wp_r2Q); (focus exact PV.near62_of (by omega) (by omega)); (focus exact PV.near62_of (by omega) (by omega))) | ((with_reducible apply PV.wp_ofLen); (focus rfl)) | ((with_reducible apply PV.wp_isx); (focus rfl)) | ((with_reducible apply PV.wp_fldx); (focus rfl)) | ((with_reducible apply PV.wp_kw); (focus rfl)) | ((with_reducible apply PV.ws_asgQ); (focus rfl)) | ((with_reducible apply PV.ex1); (focus rfl)) | ((with_reducible apply And.intro); (focus rfl)) | with_reducible exact PV.gq_same ⟨rfl, rfl⟩ | with_reducible exact ⟨rfl, rfl⟩)
namespace PV
open PySem
abbrev bagL (cs : List Int) (a r st : Int) : List (Str × D) := [("cells", .lst (cs.map .int)), ("at", .int a), ("rest", .int r), ("state", .int st)]
section
variable {cs : List Int} {a r st b : Int}
end
/-- the bag where it stands -/
def BagIn (S : Sto) (p : Nat) (cs : List Int) (a r st : Int) : Prop := S[p]? = some (.dic (bagL cs a r st)) ∧ cs.length ≤ 63 ∧ 0 ≤ a ∧ a ≤ cs.length ∧ 0 ≤ r ∧ 0 ≤ st ∧ st < 2147483647
theorem BagIn.same {S S' : Sto} {p : Nat} {cs : List Int} {a r st : Int} (h : BagIn S' p cs a r st) (hs : SameBag p S S') {a' r' st' : Int} : SameBag p S (S'.set p (.dic (bagL cs a' r' st'))) := by
  obtain ⟨cs1, a1, r1, s1, rfl⟩ := hs
  exact ⟨cs, a', r', st', by rw [List.set_set]; rfl⟩
end PV
set_option Elab.async false
set_option linter.all false
set_option maxRecDepth 100000
set_option maxHeartbeats 4000000
/-! which built-in type is which; what is None: S! has these names -/
namespace PV
open PySem
theorem Q_sT_NoneType_int : subT "NoneType" "int" = false := by decide +kernel
theorem Q_sT_NoneType_bool : subT "NoneType" "bool" = false := by decide +kernel
theorem Q_sT_NoneType_str : subT "NoneType" "str" = false := by decide +kernel
theorem Q_sT_NoneType_list : subT "NoneType" "list" = false := by decide +kernel
theorem Q_sT_NoneType_tuple : subT "NoneType" "tuple" = false := by decide +kernel
theorem Q_sT_bool_int : subT "bool" "int" = true := by decide +kernel
theorem Q_sT_bool_bool : subT "bool" "bool" = true := by decide +kernel
theorem Q_sT_bool_str : subT "bool" "str" = false := by decide +kernel
theorem Q_sT_bool_list : subT "bool" "list" = false := by decide +kernel
theorem Q_sT_bool_tuple : subT "bool" "tuple" = false := by decide +kernel
theorem Q_sT_int_int : subT "int" "int" = true := by decide +kernel
theorem Q_sT_int_bool : subT "int" "bool" = false := by decide +kernel
theorem Q_sT_int_str : subT "int" "str" = false := by decide +kernel
theorem Q_sT_int_list : subT "int" "list" = false := by decide +kernel
theorem Q_sT_int_tuple : subT "int" "tuple" = false := by decide +kernel
theorem Q_sT_str_int : subT "str" "int" = false := by decide +kernel
theorem Q_sT_str_bool : subT "str" "bool" = false := by decide +kernel
theorem Q_sT_str_str : subT "str" "str" = true := by decide +kernel
theorem Q_sT_str_list : subT "str" "list" = false := by decide +kernel
theorem Q_sT_str_tuple : subT "str" "tuple" = false := by decide +kernel
theorem Q_sT_tuple_int : subT "tuple" "int" = false := by decide +kernel
theorem Q_sT_tuple_bool : subT "tuple" "bool" = false := by decide +kernel
theorem Q_sT_tuple_str : subT "tuple" "str" = false := by decide +kernel
theorem Q_sT_tuple_list : subT "tuple" "list" = false := by decide +kernel
theorem Q_sT_tuple_tuple : subT "tuple" "tuple" = true := by decide +kernel
theorem Q_sT_list_int : subT "list" "int" = false := by decide +kernel
theorem Q_sT_list_bool : subT "list" "bool" = false := by decide +kernel
theorem Q_sT_list_str : subT "list" "str" = false := by decide +kernel
theorem Q_sT_list_list : subT "list" "list" = true := by decide +kernel
theorem Q_sT_list_tuple : subT "list" "tuple" = false := by decide +kernel
theorem Q_sT_dict_int : subT "dict" "int" = false := by decide +kernel
theorem Q_sT_dict_bool : subT "dict" "bool" = false := by decide +kernel
theorem Q_sT_dict_str : subT "dict" "str" = false := by decide +kernel
theorem Q_sT_dict_list : subT "dict" "list" = false := by decide +kernel
theorem Q_sT_dict_tuple : subT "dict" "tuple" = false := by decide +kernel
theorem Q_nn_i {i : Int} : isNon (.int i) = false := rfl
theorem Q_nn_n  : isNon (.non) = true := rfl
theorem Q_nn_t {xs : List D} : isNon (.tup xs) = false := rfl
theorem Q_nn_l {xs : List D} : isNon (.lst xs) = false := rfl
theorem Q_nn_s {z : Str} : isNon (.str z) = false := rfl
theorem Q_nn_b {b : Bool} : isNon (.bl b) = false := rfl
theorem Q_nn_d  : isNon (.dic0) = false := rfl
theorem Q_nn_o {c : String} {fs : List (String × D)} : isNon (.obj c fs) = false := rfl
end PV
set_option Elab.async false
set_option linter.all false
set_option maxRecDepth 100000
set_option maxHeartbeats 4000000
/-! lists of texts and of truths, compared -/
namespace PV
open PySem PyProof.Rows
theorem eqD_bl {a b : Bool} : eqD (.bl a) (.bl b) = some (decide (a = b)) := by cases a <;> cases b <;> decide +kernel
theorem in_tup (n : Int) (ns : List Int) (S : Sto) : inG false (.int n) (.tup (ns.map .int)) S = .ok (.bl (decide (n ∈ ns))) S := by
  simp only [inG, inD, toP, toPs_ints, flat_ints, inD.flat, and_self, if_true, PV.any_ints]
  simp
end PV
-- Q9
set_option Elab.async false
set_option linter.all false
set_option maxRecDepth 100000
set_option maxHeartbeats 4000000
local macro_rules | `(tactic| k_upd) => `(tactic| first | simp -dsimp -implicitDefEqProofs only [PV.Q_ok, PV.Q_ex, PV.Q_v0, PV.Q_vs, PV.Q_k, PV.Q_bin, PV.Q_una, PV.Q_cal, PV.Q_nil, PV.Q_cons, PV.Q_star, PV.Q_tst, PV.Q_tru, PV.Q_no, PV.Q_an, PV.Q_or, PV.Q_ifE, PV.Q_anE, PV.Q_orE, PV.Q_anD, PV.Q_orD, PV.Q_noE, PV.Q_chn, PV.Q_chD, PV.Q_t, PV.Q_f, PV.Q_T, PV.Q_F, PV.Q_tup, PV.Q_lst, PV.Q_lstM, PV.Q_cm, PV.Q_sm, PV.Q_mt, PV.Q_mtK, PV.Q_mthL, PV.Q_mthS, PV.Q_isStr, PV.Q_itemsF, PV.Q_sli, PV.Q_oNo, PV.Q_oSo, PV.Q_add, PV.Q_addI, PV.Q_sub, PV.Q_neg, PV.Q_eqI, PV.Q_neI, PV.Q_lt, PV.Q_le, PV.Q_gt, PV.Q_ge, PV.Q_isN, PV.Q_int, PV.Q_intb, PV.Q_abs, PV.Q_lenl, PV.Q_lent, PV.Q_tupl, PV.Q_tupt, PV.Q_listl, PV.Q_listt, PV.Q_onlyB, PV.Q_notB, PV.Q_ixt0, PV.Q_ixt1, PV.Q_ixt2, PV.Q_ixt3, PV.Q_ixl0, PV.Q_ixl1, PV.Q_ixl2, PV.Q_ixl3, PV.Q_seq, PV.Q_sNil, PV.Q_ret, PV.Q_retN, PV.Q_exp, PV.Q_set, PV.Q_if, PV.Q_brk, PV.Q_cnt, PV.Q_st, PV.Q_sf, PV.Q_nx, PV.Q_sT, PV.Q_sF, PV.Q_par, PV.Q_parQ, PV.Q_asg, PV.Q_asgN, PV.Q_asg2, PV.Q_asg3, PV.Q_asg4, PV.Q_aug, PV.Q_augQ, PV.Q_iSeq, PV.Q_seqL, PV.Q_seqT, PV.Q_seqS, PV.Q_iR1, PV.Q_iR2, PV.Q_iEn, PV.Q_iZp, PV.Q_zpl, PV.Q_zpt, PV.Q_frz, PV.Q_lns, PV.Q_dc, PV.Q_iEs, PV.Q_ens, PV.Q_enl, PV.Q_ent, PV.Q_par3, PV.Q_parc3, PV.Q_rai, PV.Q_rai0, PV.Q_rai1, PV.Q_rai2, PV.Q_gxs, PV.Q_bind, PV.Q_sbind, PV.Q_sT_NoneType_int, PV.Q_sT_NoneType_bool, PV.Q_sT_NoneType_str, PV.Q_sT_NoneType_list, PV.Q_sT_NoneType_tuple, PV.Q_sT_bool_int, PV.Q_sT_bool_bool, PV.Q_sT_bool_str, PV.Q_sT_bool_list, PV.Q_sT_bool_tuple, PV.Q_sT_int_int, PV.Q_sT_int_bool, PV.Q_sT_int_str, PV.Q_sT_int_list, PV.Q_sT_int_tuple, PV.Q_sT_str_int, PV.Q_sT_str_bool, PV.Q_sT_str_str, PV.Q_sT_str_list, PV.Q_sT_str_tuple, PV.Q_sT_tuple_int, PV.Q_sT_tuple_bool, PV.Q_sT_tuple_str, PV.Q_sT_tuple_list, PV.Q_sT_tuple_tuple, PV.Q_sT_list_int, PV.Q_sT_list_bool, PV.Q_sT_list_str, PV.Q_sT_list_list, PV.Q_sT_list_tuple, PV.Q_sT_dict_int, PV.Q_sT_dict_bool, PV.Q_sT_dict_str, PV.Q_sT_dict_list, PV.Q_sT_dict_tuple, PV.Q_nn_i, PV.Q_nn_n, PV.Q_nn_t, PV.Q_nn_l, PV.Q_nn_s, PV.Q_nn_b, PV.Q_nn_d, PV.Q_nn_o, PV.truD, List.map_cons, List.map_nil, List.cons_append, List.nil_append, Nat.reduceSub, List.reduceReplicate, List.set_cons_zero, List.set_cons_succ, Bool.not_true, Bool.not_false, Bool.not_not, Bool.false_xor, Bool.true_xor, Bool.false_eq_true, and_self, true_and, and_true, PV.wipeD, PV.Tg.slots] | ((with_reducible apply PV.wp_fld); (focus rfl); (focus rfl); (focus rfl)) | ((with_reducible apply PV.wp_isi); (focus rfl)) | ((with_reducible apply PV.wp_isiA); (focus rfl)) | ((with_reducible apply PV.wp_lstQ); (focus exact Nat.le_of_ble_eq_true rfl)) | ((with_reducible apply PV.wp_tupQ); (focus exact Nat.le_of_ble_eq_true rfl)) | ((with_reducible apply PV.wp_lstMQ); (focus exact Nat.le_of_ble_eq_true rfl)) | ((with_reducible apply PV.wp_mtQ); (focus rfl); (focus rfl); (focus rfl)) | ((with_reducible apply PV.wp_mtKQ); (focus rfl); (focus rfl)) | ((with_reducible apply PV.wp_r1Q); (focus exact PV.near62_of (by omega) (by omega))) | ((with_reducible apply PV.wp_r2Q); (focus exact PV.near62_of (by omega) (by omega)); (focus exact PV.near62_of (by omega) (by omega))) | ((with_reducible apply PV.wp_ofLen); (focus rfl)) | ((with_reducible apply PV.wp_isx); (focus rfl)) | ((with_reducible apply PV.wp_fldx); (focus rfl)) | ((with_reducible apply PV.wp_kw); (focus rfl)) | ((with_reducible apply PV.ws_asgQ); (focus rfl)) | ((with_reducible apply PV.ex1); (focus rfl)) | ((with_reducible apply And.intro); (focus rfl)) | with_reducible exact PV.gq_same ⟨rfl, rfl⟩ | with_reducible exact ⟨rfl, rfl⟩)
namespace K08
open PySem PV
/-- a set of numbers to 3, with all beyond or without -/
structure Tv where
  (b0 b1 b2 b3 e : Bool)
deriving DecidableEq
def Tv.all (p : Tv → Bool) : Bool := [false, true].all fun a => [false, true].all fun b => [false, true].all fun c => [false, true].all fun d => [false, true].all fun e => p ⟨a, b, c, d, e⟩
theorem Tv.of_all {p : Tv → Bool} (h : Tv.all p = true) (t : Tv) : p t = true := by
  unfold Tv.all at h
  simp only [List.all_cons, List.all_nil, Bool.and_true, Bool.and_eq_true] at h
  obtain ⟨a, b, c, d, e⟩ := t
  cases a <;> cases b <;> cases c <;> cases d <;> cases e <;> simp [h]
def Tv.bit (t : Tv) : Nat → Bool
  | 0 => t.b0
  | 1 => t.b1
  | 2 => t.b2
  | 3 => t.b3
  | _ => t.e
def Tv.row (t : Tv) : List Bool := [t.b0, t.b1, t.b2, t.b3, t.e]
def Tv.sel (t : Tv) : List Int := (if t.b0 = true then [0] else []) ++ ((if t.b1 = true then [1] else []) ++ ((if t.b2 = true then [2] else []) ++ (if t.b3 = true then [3] else [])))
def Tv.low (t : Tv) : Nat → Nat
  | 0 => 0
  | n + 1 => if t.bit n = t.e then t.low n else n + 1
def Tv.bnd (t : Tv) : Nat := t.low 4
def hd (t : Tv) : D := .obj "Held" [("listed", .tup (t.sel.map .int)), ("is_endless", .bl t.e), ("bound", .int t.bnd)]
theorem und_fs (t : Tv) (m : Nat) : belowf m [("listed", .tup (t.sel.map .int)), ("is_endless", .bl t.e), ("bound", .int t.bnd)] = true := by
  simp [belowf, D.und, belows_ints]
theorem und_hd (t : Tv) (m : Nat) : (hd t).und m = true := und_fs t m
theorem mem_sel (t : Tv) (k : Int) : k ∈ t.sel ↔ 0 ≤ k ∧ k < 4 ∧ t.bit k.toNat = true := by
  obtain ⟨a, b, c, d, e⟩ := t
  constructor
  · intro h
    have hk : k = 0 ∨ k = 1 ∨ k = 2 ∨ k = 3 := by
      cases a <;> cases b <;> cases c <;> cases d <;> simp [Tv.sel] at h <;> omega
    rcases hk with rfl | rfl | rfl | rfl <;> cases a <;> cases b <;> cases c <;> cases d <;> simp [Tv.sel] at h <;> simp [Tv.bit]
  · rintro ⟨h0, h1, h⟩
    have hk : k = 0 ∨ k = 1 ∨ k = 2 ∨ k = 3 := by omega
    rcases hk with rfl | rfl | rfl | rfl <;> simp [Tv.bit] at h <;> subst h <;> simp [Tv.sel]
theorem sel_asc (t : Tv) : t.sel.Pairwise (· < ·) := by
  obtain ⟨a, b, c, d, e⟩ := t
  cases a <;> cases b <;> cases c <;> cases d <;> simp [Tv.sel]
theorem sel_len (t : Tv) : t.sel.length ≤ 4 := by
  obtain ⟨a, b, c, d, e⟩ := t
  cases a <;> cases b <;> cases c <;> cases d <;> simp [Tv.sel]
/-- the set of some numbers -/
def ofNs (ns : List Int) (e : Bool) : Tv := ⟨decide (0 ∈ ns), decide (1 ∈ ns), decide (2 ∈ ns), decide (3 ∈ ns), e⟩
theorem bit_of (ns : List Int) (e : Bool) {k : Nat} (h : k < 4) : (ofNs ns e).bit k = decide ((k : Int) ∈ ns) := by
  have hk : k = 0 ∨ k = 1 ∨ k = 2 ∨ k = 3 := by omega
  rcases hk with rfl | rfl | rfl | rfl <;> rfl
theorem sset_of {ns : List Int} (e : Bool) (h : ∀ n ∈ ns, 0 ≤ n ∧ n ≤ 3) : ZN.sset ns = (ofNs ns e).sel := ZN.asc_eq ZN.asc_sset (sel_asc _) fun k => by
  rw [ZN.mem_sset, mem_sel]
  constructor
  · intro hk
    obtain ⟨h0, h1⟩ := h k hk
    refine ⟨h0, by omega, ?_⟩
    rw [bit_of ns e (by omega), Int.toNat_of_nonneg h0]
    exact decide_eq_true hk
  · rintro ⟨h0, h1, h2⟩
    rw [bit_of ns e (by omega), Int.toNat_of_nonneg h0] at h2
    exact of_decide_eq_true h2
/-! values that the laws hand over -/
inductive Vl : D → Prop
  | non : Vl .non
  | bl (b : Bool) : Vl (.bl b)
  | int (i : Int) : Vl (.int i)
  | str (z : Str) : Vl (.str z)
  | tup {xs : List D} (h : ∀ n, belows n xs = true) : Vl (.tup xs)
  | lst {xs : List D} (h : ∀ n, belows n xs = true) : Vl (.lst xs)
  | dic0 : Vl .dic0
  | held (t : Tv) : Vl (hd t)
theorem Vl.und {d : D} (h : Vl d) (n : Nat) : d.und n = true := by
  cases h with
  | tup h => exact h n
  | lst h => exact h n
  | held t => exact und_hd t n
  | _ => rfl
def hwhole : D → Bool
  | .int _ => true
  | _ => false
theorem h_whole {d : D} (h : Vl d) (S : Sto) : F_is_whole [d] S = .ok (.bl (hwhole d)) S := by
  cases h <;> exact run_ok rfl rfl rfl
def hbtw (d : D) (lo hi : Int) : Bool := match d with
  | .int i => decide (lo ≤ i) && decide (i ≤ hi)
  | _ => false
theorem h_btw {d : D} (h : Vl d) (lo hi : Int) (S : Sto) : F_is_between [d, .int lo, .int hi] S = .ok (.bl (hbtw d lo hi)) S := by
  refine eq_of_wp (wp_dfn rfl ?_)
  (repeat k_upd)
  refine wp_eq (h_whole h S) ?_
  (repeat k_upd)
  cases h with
  | int i =>
    refine wp_t rfl ?_
    (repeat k_upd)
    by_cases c : lo ≤ i
    · refine wp_dt c ?_
      (repeat k_upd)
      refine gq_same ?_
      exact ⟨by simp [hbtw, c], rfl⟩
    · refine wp_df c ?_
      refine wp_ok (gq_same ?_)
      exact ⟨by simp [hbtw, c], rfl⟩
  | _ =>
    refine wp_f rfl ?_
    exact wp_ok (gq_same ⟨rfl, rfl⟩)
theorem hbtw_wp {i lo hi : Int} {S : Sto} {Q : D → Sto → Prop} {E : XQ} (h : lo ≤ i) (h' : i ≤ hi) (q : Q (.bl true) S) : Wp (F_is_between [.int i, .int lo, .int hi] S) Q E :=
  wp_eq ((h_btw (.int i) lo hi S).trans (by rw [show hbtw (.int i) lo hi = true by simp [hbtw, h, h']])) q
/-! the bound -/
theorem e_bound (t : Tv) (S : Sto) : F_bound_of [.tup (t.sel.map .int), .bl t.e] S = .ok (.int t.bnd) S := by
  refine eq_of_wp (wp_dfn rfl ?_)
  (repeat k_upd)
  refine ws_whl (fun m ρ S' => S' = S ∧ m ≤ 4 ∧ t.low m = t.bnd ∧ ρ = [some (.tup (t.sel.map .int)), some (.bl t.e), some (.int m)]) 4 ?_ ?_
  · exact ⟨rfl, by omega, rfl, rfl⟩
  rintro m ρ S' ⟨rfl, hm, hl, rfl⟩
  match m, hm, hl with
  | 0, _, hl =>
    (repeat k_upd)
    refine wp_df (by decide) ?_
    (repeat k_upd)
    refine ⟨(fun z => by cases z), (fun _ => ?_)⟩
    (repeat k_upd)
    refine gq_same ⟨?_, rfl⟩
    rw [← hl]
    rfl
  | n + 1, hm, hl =>
    (repeat k_upd)
    refine wp_dt (by omega) ?_
    (repeat k_upd)
    refine wp_eq (in_tup _ _ _) ?_
    have e : decide ((((n + 1 : Nat) : Int) - 1) ∈ t.sel) = t.bit n := by
      rw [Bool.eq_iff_iff, decide_eq_true_iff, mem_sel]
      have : (((n + 1 : Nat) : Int) - 1).toNat = n := by omega
      rw [this]
      constructor
      · exact fun h => h.2.2
      · exact fun h => ⟨by omega, by omega, h⟩
    rw [e]
    (repeat k_upd)
    refine wp_eqv eqD_bl ?_
    (repeat k_upd)
    unfold Tv.low at hl
    by_cases c : t.bit n = t.e
    · rw [if_pos c] at hl
      rw [decide_eq_true c]
      (repeat k_upd)
      refine ⟨(fun _ => ?_), (fun z => by cases z)⟩
      (repeat k_upd)
      refine ⟨n, by omega, ?_⟩
      have : (((n + 1 : Nat) : Int) - 1) = n := by omega
      rw [this]
      exact ⟨by omega, hl, rfl⟩
    · rw [if_neg c] at hl
      rw [decide_eq_false c]
      (repeat k_upd)
      refine ⟨(fun z => by cases z), (fun _ => ?_)⟩
      (repeat k_upd)
      refine gq_same ⟨?_, rfl⟩
      rw [hl]
end K08
-- Q9
set_option Elab.async false
set_option linter.all false
set_option maxRecDepth 100000
set_option maxHeartbeats 4000000
namespace K08
open PySem PV
theorem asInts_ints (ns : List Int) : asInts (ns.map .int) = some ns := by
  have := asInts_mapT (fun i : Int => i) ns
  simpa using this
theorem dfnK_of {n : Nat} {b : MS} {a x : D} {rest : List D} {S : Sto} {o : Out D} (h : rest.length ≤ 1000) (e : dfn 3 n b [a, x, .tup rest] S = o) : dfnK n b (a :: x :: rest) S = o := by
  show (if rest.length ≤ 1000 then dfn 3 n b [a, x, .tup rest] S else .no) = o
  rw [if_pos h]
  exact e
theorem init_ok {ns : List Int} {e : Bool} (h : ∀ n ∈ ns, 0 ≤ n ∧ n ≤ 3) (hl : ns.length < 64) {S : Sto} : FK_HeldD_initD (.loc S.length :: .bl e :: ns.map .int) (S ++ [Cell.ins "Held" []]) = .ok .non ((S ++ [Cell.ins "Held" []]).set S.length (Cell.ins "Held" [("listed", .tup ((ofNs ns e).sel.map .int)), ("is_endless", .bl e), ("bound", .int (ofNs ns e).bnd)])) := by
  refine dfnK_of (by rw [List.length_map]; omega) ?_
  refine eq_of_wp (wp_dfn rfl ?_)
  unfold B_HeldD_initD
  (repeat k_upd)
  refine ws_for (fun j ρ S' => S' = S ++ [Cell.ins "Held" []] ∧ ∃ x, ρ = [some (.loc S.length), some (.bl e), some (.tup (ns.map .int)), x]) (wp_eq (a := (ns.map .int, none)) rfl ?_)
  refine ⟨fun _ _ _ _ => trivial, ⟨rfl, _, rfl⟩, ?_, ?_⟩
  · rintro j y hy ρ S' ⟨rfl, x, rfl⟩
    obtain ⟨n, hn, rfl⟩ := pick_ints hy
    obtain ⟨n0, n1⟩ := h n hn
    refine ⟨_, rfl, ?_⟩
    (repeat k_upd)
    refine hbtw_wp n0 n1 ?_
    (repeat k_upd)
    exact ⟨_, rfl⟩
  · rintro ρ S' ⟨rfl, x, rfl⟩
    have e0 : (S ++ [Cell.ins "Held" []])[S.length]? = some (.ins "Held" []) := by simp
    (repeat k_upd)
    refine ws_fld ?_
    (repeat k_upd)
    refine wp_eq (a := .lst ((ZN.sset ns).map .int)) (S := S ++ [Cell.ins "Held" []]) ?_ ?_
    · have e1 : lcE (.nm 3) (iSeq (v 2)) (tYs) (cal intB (aCons (v 3) (aNil))) [some (.loc S.length), some (.bl e), some (.tup (ns.map .int)), x] (S ++ [Cell.ins "Held" []]) = .ok (.lst (ns.map .int)) (S ++ [Cell.ins "Held" []]) := by
        refine eq_of_wp ?_
        refine wp_lcU (ns := ns) (fun i => .int i) (fun i => .int i) ?_ (by omega) (fun c hc => ⟨_, rfl, ?_⟩) ?_
        · (repeat k_upd)
        · (repeat k_upd)
        · exact ⟨rfl, rfl⟩
      unfold srtSet
      rw [e1]
      simp only [Out.bind, asInts_ints, hl, if_true]
    rw [sset_of e h]
    (repeat k_upd)
    refine ⟨_, _, _, rfl, e0, ⟨rfl, by decide⟩, ?_⟩
    (repeat k_upd)
    refine ws_fld ?_
    (repeat k_upd)
    refine ⟨_, _, _, rfl, List.getElem?_set_self (by simp), ⟨rfl, by show 1 < 1000; decide⟩, ?_⟩
    rw [List.set_set]
    (repeat k_upd)
    refine ws_fld ?_
    (repeat k_upd)
    refine wp_fld (c := "Held") (fs := [("listed", .tup ((ofNs ns e).sel.map .int)), ("is_endless", .bl e)]) (y := .tup ((ofNs ns e).sel.map .int)) ?_ rfl rfl ?_
    · simp [insOf, putD]
    (repeat k_upd)
    refine wp_eq (e_bound (ofNs ns e) _) ?_
    (repeat k_upd)
    refine ⟨_, _, _, rfl, List.getElem?_set_self (by simp), ⟨rfl, by show 2 < 1000; decide⟩, ?_⟩
    (repeat k_upd)
    exact gq_len (by simp) ⟨rfl, by rw [List.set_set]; rfl⟩
theorem mk_k {ns : List Int} {e : Bool} (h : ∀ n ∈ ns, 0 ≤ n ∧ n ≤ 3) (hl : ns.length < 64) {S : Sto} : mkF "Held" FK_HeldD_initD (.bl e :: ns.map .int) S = .ok (hd (ofNs ns e)) S := mkF_of (init_ok h hl) (und_fs _ _)
theorem mk_h {ns : List Int} (h : ∀ n ∈ ns, 0 ≤ n ∧ n ≤ 3) (hl : ns.length < 64) {S : Sto} : mkF "Held" F_HeldD_initD (ns.map .int) S = .ok (hd (ofNs ns false)) S := mkF_of (init_ok (e := false) h hl) (und_fs _ _)
end K08
-- Q9
set_option Elab.async false
set_option linter.all false
set_option maxRecDepth 100000
set_option maxHeartbeats 4000000
namespace K08
open PySem PV
theorem row_at (t : Tv) {k : Nat} (h : k < 5) : (t.row.map D.bl)[k]? = some (.bl (t.bit k)) := by
  have hk : k = 0 ∨ k = 1 ∨ k = 2 ∨ k = 3 ∨ k = 4 := by omega
  rcases hk with rfl | rfl | rfl | rfl | rfl <;> rfl
theorem atI_nat {xs : List D} {k : Nat} {x : D} (h : xs[k]? = some x) (hl : xs.length < 1000) : L2.atI xs (k : Int) = some x := by
  obtain ⟨y, h1, h2⟩ := atI_ok (xs := xs) (r := k) (by omega) (by have := (List.getElem?_eq_some_iff.mp h).1; omega)
  rw [Int.toNat_natCast, h] at h2
  cases h2
  exact h1
def sel4 (t : Tv) : List Nat := (List.range 4).filter fun k => t.bit k
theorem sel4_eq (t : Tv) : (sel4 t).map (fun (k : Nat) => (k : Int)) = t.sel := by
  have := Tv.of_all (p := fun t => decide ((sel4 t).map (fun (k : Nat) => (k : Int)) = t.sel)) (by decide +kernel) t
  exact of_decide_eq_true this
theorem ofNs_sel (t : Tv) : ofNs t.sel t.e = t := by
  have := Tv.of_all (p := fun t => decide (ofNs t.sel t.e = t)) (by decide +kernel) t
  exact of_decide_eq_true this
theorem sel_ok (t : Tv) : ∀ n ∈ t.sel, 0 ≤ n ∧ n ≤ 3 := fun n hn => by
  obtain ⟨h0, h1, _⟩ := (mem_sel t n).mp hn
  omega
theorem e_heldof (t : Tv) (S : Sto) : F_held_of [.lst (t.row.map .bl)] S = .ok (hd t) S := by
  refine eq_of_wp (wp_dfn rfl ?_)
  (repeat k_upd)
  refine wp_lcT (ns := List.range 4) (fun k => .int (k : Nat)) (fun k => t.bit k) (fun k => .int (k : Nat)) ?_ (by decide) (fun k hk => ⟨_, rfl, ?_, fun _ => ?_⟩) ?_
  · (repeat k_upd)
    exact congrArg (·, none) (ups_map 4)
  · have hk := List.mem_range.mp hk
    (repeat k_upd)
    refine wp_ixl (atI_nat (row_at t (by omega)) (by rw [List.length_map]; exact Nat.le_of_ble_eq_true rfl)) ?_
    (repeat k_upd)
  · (repeat k_upd)
  (repeat k_upd)
  refine wp_ixl (x := .bl t.e) rfl ?_
  (repeat k_upd)
  have e1 : ((List.range 4).filter fun k => t.bit k).map (fun (k : Nat) => D.int k) = t.sel.map .int := by
    rw [← sel4_eq, List.map_map]
    rfl
  rw [e1]
  refine wp_eq (a := hd t) (S := S) ?_ ?_
  · have e2 := mk_k (ns := t.sel) (e := t.e) (sel_ok t) (by have := sel_len t; omega) (S := S)
    rw [ofNs_sel] at e2
    exact e2
  · (repeat k_upd)
def onw (k : Nat) : Tv := ⟨decide (k ≤ 0), decide (k ≤ 1), decide (k ≤ 2), decide (k ≤ 3), true⟩
theorem e_onward {k : Nat} (h : k ≤ 4) (S : Sto) : F_Held_onward [.int k] S = .ok (hd (onw k)) S := by
  refine eq_of_wp (wp_dfn rfl ?_)
  (repeat k_upd)
  refine hbtw_wp (by omega) (by omega) ?_
  (repeat k_upd)
  refine wp_lcU (ns := List.range 5) (fun i => .int (i : Nat)) (fun i => .bl (decide (k ≤ i))) ?_ (by decide) (fun i hi => ⟨_, rfl, ?_⟩) ?_
  · (repeat k_upd)
    exact congrArg (·, none) (ups_map 5)
  · (repeat k_upd)
    congr 1
    exact decide_eq_decide.mpr (by omega)
  (repeat k_upd)
  have e1 : (List.range 5).map (fun i => D.bl (decide (k ≤ i))) = (onw k).row.map .bl := by
    have hk : k = 0 ∨ k = 1 ∨ k = 2 ∨ k = 3 ∨ k = 4 := by omega
    rcases hk with rfl | rfl | rfl | rfl | rfl <;> rfl
  rw [e1]
  refine wp_eq (e_heldof _ S) ?_
  (repeat k_upd)
theorem e_none (S : Sto) : F_Held_none [] S = .ok (hd ⟨false, false, false, false, false⟩) S := by
  refine eq_of_wp (wp_dfn rfl ?_)
  (repeat k_upd)
  refine wp_eq (mk_h (ns := []) (fun n h => nomatch h) (by decide)) ?_
  (repeat k_upd)
theorem e_truths (t : Tv) (S : Sto) : F_Held_truths [hd t] S = .ok (.lst (t.row.map .bl)) S := by
  refine eq_of_wp (wp_dfn rfl ?_)
  unfold hd
  (repeat k_upd)
  refine wp_lcU (ns := List.range 4) (fun i => .int (i : Nat)) (fun i => .bl (t.bit i)) ?_ (by decide) (fun i hi => ⟨_, rfl, ?_⟩) ?_
  · (repeat k_upd)
    exact congrArg (·, none) (ups_map 4)
  · have hi := List.mem_range.mp hi
    (repeat k_upd)
    refine wp_eq (in_tup _ _ _) ?_
    (repeat k_upd)
    congr 1
    rw [Bool.eq_iff_iff, decide_eq_true_iff, mem_sel, Int.toNat_natCast]
    exact ⟨fun h => h.2.2, fun h => ⟨by omega, by omega, h⟩⟩
  dsimp only
  (repeat k_upd)
end K08
-- Q9
set_option Elab.async false
set_option linter.all false
set_option maxRecDepth 100000
set_option maxHeartbeats 4000000
namespace K08
open PySem PV
/-! two sets side by side -/
theorem zip_rows (as bs : List Bool) : zipD (as.map .bl) (bs.map .bl) = (as.zip bs).map fun p => .tup [.bl p.1, .bl p.2] := by
  unfold zipD
  rw [List.zip_map, List.map_map]
  rfl
theorem e_pairs (t u : Tv) (S : Sto) : F_Held_pairs [hd t, hd u] S = .ok (.lst ((t.row.zip u.row).map fun p => .tup [.bl p.1, .bl p.2])) S := by
  refine eq_of_wp (wp_dfn rfl ?_)
  (repeat k_upd)
  refine wp_eq (a := .non) (S := S) ?_ ?_
  · refine eq_of_wp (wp_dfn rfl ?_)
    (repeat k_upd)
  (repeat k_upd)
  refine wp_eq (a := .lst ((t.row.zip u.row).map fun p => .tup [.bl p.1, .bl p.2])) (S := S) ?_ ?_
  · have e1 : mtO [("Held", F_Held_truths)] "truths" (v 0) aNil [some (hd t), some (hd u)] S = .ok (.lst (t.row.map .bl)) S := by
      refine eq_of_wp ?_
      (repeat k_upd)
      refine wp_eq (e_truths t S) ⟨rfl, rfl⟩
    have e2 : mtO [("Held", F_Held_truths)] "truths" (v 1) aNil [some (hd t), some (hd u)] S = .ok (.lst (u.row.map .bl)) S := by
      refine eq_of_wp ?_
      (repeat k_upd)
      refine wp_eq (e_truths u S) ⟨rfl, rfl⟩
    unfold lzE aCons
    rw [e1]
    simp only [Out.bind]
    rw [e2]
    simp only [Out.bind, aNil]
    rw [if_pos ⟨by simp [Tv.row], by simp [Tv.row]⟩, zip_rows]
  (repeat k_upd)
def Tv.or (t u : Tv) : Tv := ⟨t.b0 || u.b0, t.b1 || u.b1, t.b2 || u.b2, t.b3 || u.b3, t.e || u.e⟩
theorem e_or (t u : Tv) (S : Sto) : F_HeldD_orD [hd t, hd u] S = .ok (hd (t.or u)) S := by
  refine eq_of_wp (wp_dfn rfl ?_)
  (repeat k_upd)
  refine wp_lcU (ns := t.row.zip u.row) (fun p => .tup [.bl p.1, .bl p.2]) (fun p => .bl (p.1 || p.2)) ?_ (by simp [Tv.row]) (fun p hp => ⟨_, rfl, ?_⟩) ?_
  · (repeat k_upd)
    refine wp_eq (e_pairs t u S) ?_
    (repeat k_upd)
  · (repeat k_upd)
    obtain ⟨a, b⟩ := p
    cases a
    · refine wp_f rfl ?_
      (repeat k_upd)
      exact congrArg D.bl (Bool.false_or _).symm
    · refine wp_t rfl ?_
      (repeat k_upd)
      exact congrArg D.bl (Bool.true_or _).symm
  (repeat k_upd)
  refine wp_eq (e_heldof (t.or u) S) ?_
  (repeat k_upd)
theorem tv_eq {t u : Tv} : t = u ↔ t.sel = u.sel ∧ t.e = u.e := ⟨fun h => by rw [h]; exact ⟨rfl, rfl⟩, fun ⟨h1, h2⟩ => by rw [← ofNs_sel t, ← ofNs_sel u, h1, h2]⟩
theorem e_eq (t u : Tv) (S : Sto) : F_HeldD_eqD [hd t, hd u] S = .ok (.bl (decide (t = u))) S := by
  refine eq_of_wp (wp_dfn rfl ?_)
  unfold hd
  (repeat k_upd)
  refine wp_eqv (eqD_tints _ _) ?_
  (repeat k_upd)
  by_cases c : t.sel = u.sel
  · refine wp_dt c ?_
    (repeat k_upd)
    refine wp_eqv eqD_bl ?_
    (repeat k_upd)
    refine gq_same ⟨?_, rfl⟩
    congr 1
    exact decide_eq_decide.mpr ⟨fun h => tv_eq.mpr ⟨c, h⟩, fun h => (tv_eq.mp h).2⟩
  · refine wp_df c ?_
    (repeat k_upd)
    refine gq_same ⟨?_, rfl⟩
    congr 1
    exact (decide_eq_false fun h => c (tv_eq.mp h).1).symm
/-! its text -/
end K08
-- Q9
set_option Elab.async false
set_option linter.all false
set_option maxRecDepth 100000
set_option maxHeartbeats 4000000
-- simp: st1, st2, st3, st4, nn1, nn2, nn3, nn4
namespace K08
open PySem PV
theorem st1 : subT "int" "int" = true := by decide +kernel
theorem st2 : subT "int" "bool" = false := by decide +kernel
theorem st3 : subT "str" "str" = true := by decide +kernel
theorem st4 : subT "tuple" "tuple" = true := by decide +kernel
theorem nn1 {i : Int} : isNon (.int i) = false := rfl
theorem nn2 : isNon .non = true := rfl
theorem nn3 {xs : List D} : isNon (.tup xs) = false := rfl
theorem nn4 {xs : List D} : isNon (.lst xs) = false := rfl
theorem e_whole {i : Int} {S : Sto} : F_is_whole [.int i] S = .ok (.bl true) S := by
  refine eq_of_wp (wp_dfn rfl ?_)
  (repeat (first | simp -dsimp -implicitDefEqProofs only [st1, st2, st3, st4, nn1, nn2, nn3, nn4] | k_upd))
theorem btw {i lo hi : Int} {S : Sto} (h : lo ≤ i) (h' : i ≤ hi) : F_is_between [.int i, .int lo, .int hi] S = .ok (.bl true) S := by
  refine eq_of_wp (wp_dfn rfl ?_)
  (repeat (first | simp -dsimp -implicitDefEqProofs only [st1, st2, st3, st4, nn1, nn2, nn3, nn4] | k_upd))
  refine wp_eq e_whole ?_
  (repeat (first | simp -dsimp -implicitDefEqProofs only [st1, st2, st3, st4, nn1, nn2, nn3, nn4] | k_upd))
  refine wp_dt h ?_
  (repeat (first | simp -dsimp -implicitDefEqProofs only [st1, st2, st3, st4, nn1, nn2, nn3, nn4] | k_upd))
  exact gq_same ⟨by rw [decide_eq_true h'], rfl⟩
theorem btw_wp {i lo hi : Int} {S : Sto} {Q : D → Sto → Prop} {E : XQ} (h : lo ≤ i) (h' : i ≤ hi) (q : Q (.bl true) S) : Wp (F_is_between [.int i, .int lo, .int hi] S) Q E := wp_eq (btw h h') q
/-! the signs of a ring -/
structure Gs (cs : List Nat) : Prop where
  l2 : 2 ≤ cs.length
  l6 : cs.length ≤ 6
  ok : ∀ c ∈ cs, c ∈ [97, 98, 65, 66, 111]
  nd : (cs.filter fun c => decide (c ∈ [65, 66])).Nodup
theorem cps_AB : ("AB" : Str).cps.toList = [65, 66] := by decide +kernel
theorem cps_all : ("abABo" : Str).cps.toList = [97, 98, 65, 66, 111] := by decide +kernel
theorem e_signs {cs : List Nat} (h : Gs cs) {S : Sto} : F_are_signs [.str (mkS cs)] S = .ok (.bl true) S := by
  have l2 := h.l2
  have l6 := h.l6
  refine eq_of_wp (wp_dfn rfl ?_)
  (repeat (first | simp -dsimp -implicitDefEqProofs only [st1, st2, st3, st4, nn1, nn2, nn3, nn4] | k_upd))
  refine wp_lens (by rw [mkS_len]; omega) ?_
  rw [mkS_len]
  (repeat (first | simp -dsimp -implicitDefEqProofs only [st1, st2, st3, st4, nn1, nn2, nn3, nn4] | k_upd))
  refine wp_dt (by omega) ?_
  (repeat (first | simp -dsimp -implicitDefEqProofs only [st1, st2, st3, st4, nn1, nn2, nn3, nn4] | k_upd))
  rw [decide_eq_true (show (cs.length : Int) ≤ 6 by omega)]
  (repeat (first | simp -dsimp -implicitDefEqProofs only [st1, st2, st3, st4, nn1, nn2, nn3, nn4] | k_upd))
  refine wp_lcT (ns := cs) (fun c => .str (oneS c)) (fun c => decide (c ∈ [65, 66])) (fun c => .str (oneS c)) ?_ (by omega) (fun c hc => ⟨_, rfl, ?_, fun _ => ?_⟩) ?_
  · (repeat (first | simp -dsimp -implicitDefEqProofs only [st1, st2, st3, st4, nn1, nn2, nn3, nn4] | k_upd))
    rw [signs_mkS]
  · (repeat (first | simp -dsimp -implicitDefEqProofs only [st1, st2, st3, st4, nn1, nn2, nn3, nn4] | k_upd))
    refine wp_in ?_
    (repeat (first | simp -dsimp -implicitDefEqProofs only [st1, st2, st3, st4, nn1, nn2, nn3, nn4] | k_upd))
    rw [cps_AB]
  · (repeat (first | simp -dsimp -implicitDefEqProofs only [st1, st2, st3, st4, nn1, nn2, nn3, nn4] | k_upd))
  (repeat (first | simp -dsimp -implicitDefEqProofs only [st1, st2, st3, st4, nn1, nn2, nn3, nn4] | k_upd))
  refine wp_lcU (ns := cs) (fun c => .str (oneS c)) (fun c => .bl (decide (c ∈ [97, 98, 65, 66, 111]))) ?_ (by omega) (fun c hc => ⟨_, rfl, ?_⟩) ?_
  · (repeat (first | simp -dsimp -implicitDefEqProofs only [st1, st2, st3, st4, nn1, nn2, nn3, nn4] | k_upd))
    rw [signs_mkS]
  · (repeat (first | simp -dsimp -implicitDefEqProofs only [st1, st2, st3, st4, nn1, nn2, nn3, nn4] | k_upd))
    refine wp_in ?_
    (repeat (first | simp -dsimp -implicitDefEqProofs only [st1, st2, st3, st4, nn1, nn2, nn3, nn4] | k_upd))
    rw [cps_all]
  (repeat (first | simp -dsimp -implicitDefEqProofs only [st1, st2, st3, st4, nn1, nn2, nn3, nn4] | k_upd))
  refine wp_allT ?_
  rw [show ((cs.map fun c => decide (c ∈ [97, 98, 65, 66, 111])).all id) = true by
    rw [List.all_map, List.all_eq_true]
    exact fun c hc => decide_eq_true (h.ok c hc)]
  (repeat (first | simp -dsimp -implicitDefEqProofs only [st1, st2, st3, st4, nn1, nn2, nn3, nn4] | k_upd))
  refine wp_lnsT (f := oneS) (nodup_ones h.nd) (by have := List.length_filter_le (fun c => decide (c ∈ [65, 66])) cs; omega) ?_
  (repeat (first | simp -dsimp -implicitDefEqProofs only [st1, st2, st3, st4, nn1, nn2, nn3, nn4] | k_upd))
  exact gq_same ⟨by rw [List.length_map, decide_eq_true rfl], rfl⟩
/-! a ring -/
def ringD (cs : List Nat) (a : Int) : D := .obj "Ring" [("signs", .str (mkS cs)), ("across", .int a)]
structure Gr (cs : List Nat) (a : Int) : Prop where
  s : Gs cs
  a0 : 0 ≤ a
  a1 : a < cs.length
theorem init_ring {cs : List Nat} {a : Int} (h : Gr cs a) {S : Sto} : dfn 3 3 B_RingD_initD [.loc S.length, .str (mkS cs), .int a] (S ++ [Cell.ins "Ring" []]) = .ok .non ((S ++ [Cell.ins "Ring" []]).set S.length (Cell.ins "Ring" [("signs", .str (mkS cs)), ("across", .int a)])) := by
  have l6 := h.s.l6
  have a1 := h.a1
  refine eq_of_wp (wp_dfn rfl ?_)
  unfold B_RingD_initD
  (repeat (first | simp -dsimp -implicitDefEqProofs only [st1, st2, st3, st4, nn1, nn2, nn3, nn4] | k_upd))
  refine wp_eq (e_signs h.s) ?_
  (repeat (first | simp -dsimp -implicitDefEqProofs only [st1, st2, st3, st4, nn1, nn2, nn3, nn4] | k_upd))
  refine wp_lens (by rw [mkS_len]; omega) ?_
  rw [mkS_len]
  (repeat (first | simp -dsimp -implicitDefEqProofs only [st1, st2, st3, st4, nn1, nn2, nn3, nn4] | k_upd))
  refine btw_wp h.a0 (by omega) ?_
  (repeat (first | simp -dsimp -implicitDefEqProofs only [st1, st2, st3, st4, nn1, nn2, nn3, nn4] | k_upd))
  have e0 : (S ++ [Cell.ins "Ring" []])[S.length]? = some (.ins "Ring" []) := by simp
  refine ws_fld ?_
  (repeat (first | simp -dsimp -implicitDefEqProofs only [st1, st2, st3, st4, nn1, nn2, nn3, nn4] | k_upd))
  refine ⟨_, _, _, rfl, e0, ⟨rfl, by decide⟩, ?_⟩
  (repeat (first | simp -dsimp -implicitDefEqProofs only [st1, st2, st3, st4, nn1, nn2, nn3, nn4] | k_upd))
  refine ws_fld ?_
  (repeat (first | simp -dsimp -implicitDefEqProofs only [st1, st2, st3, st4, nn1, nn2, nn3, nn4] | k_upd))
  refine ⟨_, _, _, rfl, List.getElem?_set_self (by simp), ⟨rfl, by show 1 < 1000; decide⟩, ?_⟩
  (repeat (first | simp -dsimp -implicitDefEqProofs only [st1, st2, st3, st4, nn1, nn2, nn3, nn4] | k_upd))
  exact gq_len (by simp) ⟨rfl, by rw [List.set_set]; rfl⟩
theorem und_ring {cs : List Nat} {a : Int} (n : Nat) : belowf n [("signs", .str (mkS cs)), ("across", .int a)] = true := by
  simp [belowf, D.und]
theorem mk_ring {cs : List Nat} {a : Int} (h : Gr cs a) {S : Sto} : mkF "Ring" F_RingD_initD [.str (mkS cs), .int a] S = .ok (ringD cs a) S := mkF_of (init_ring h) (und_ring _)
end K08
set_option Elab.async false
set_option linter.all false
set_option maxRecDepth 100000
set_option maxHeartbeats 4000000
/-! P60: a draw by any three moduli. -/
namespace PV
open PySem PySem.Spec PyProof.Rows L2
def drawTm (n1 n2 n3 c3 c4 c5 c6 c7 : Int) : MS := (sSeq (sIf (tAn (tst (bin (ltG) (v 3) (cal lenB (aCons (bin ixG (v 0) (k (.int 0))) (aNil))))) (tst (bin (geG) (cal absB (aCons (v 4) (aNil))) (bin (powG) (k (.int 10)) (k (.int 18)))))) (sSeq (sSet 5 (bin (addG) (bin (mulG) (k (.int 2)) (bin (subG) (cal absB (aCons (v 4) (aNil))) (bin (powG) (k (.int 10)) (k (.int 18))))) (cal intB (aCons (bin (ltG) (v 4) (k (.int 0))) (aNil))))) (sSeq (sSub (v 0) (k (.int 2)) (bin (fdivG) (cal intB (aCons (v 5) (aNil))) (v 1))) (sSeq (sRet (bin (modG) (cal intB (aCons (v 5) (aNil))) (v 1))) (sNil)))) (sNil)) (sSeq (sSet 6 (bin (modG) (cal intB (aCons (bin (powG) (bin (addG) (bin (addG) (bin (modG) (cal intB (aCons (v 4) (aNil))) (k (.int n1))) (bin (mulG) (k (.int c3)) (v 3))) (k (.int c4))) (k (.int 5))) (aNil))) (k (.int n2)))) (sSeq (sSet 6 (bin (modG) (cal intB (aCons (bin (powG) (bin (addG) (bin (addG) (bin (mulG) (v 6) (bin (addG) (bin (mulG) (k (.int 2)) (v 3)) (k (.int c5)))) (bin (mulG) (bin (mulG) (k (.int c6)) (v 3)) (v 3))) (k (.int c7))) (k (.int 3))) (aNil))) (k (.int n3)))) (sSeq (sRet (bin (modG) (cal intB (aCons (bin (fdivG) (v 6) (k (.int 32))) (aNil))) (v 1))) (sNil)))))
def drawBm (n1 n2 n3 c1 c2 c3 c4 c5 c6 c7 : Int) : MS := (sSeq (sIf (tst (bin (gtG) (bin ixG (v 0) (k (.int 2))) (k (.int 0)))) (sSeq (sSet 2 (bin (modG) (cal intB (aCons (bin ixG (v 0) (k (.int 2))) (aNil))) (v 1))) (sSeq (sSub (v 0) (k (.int 2)) (bin (fdivG) (cal intB (aCons (bin ixG (v 0) (k (.int 2))) (aNil))) (v 1))) (sSeq (sRet (v 2)) (sNil)))) (sNil)) (sSeq (sSet 3 (bin ixG (v 0) (k (.int 1)))) (sSeq (sSub (v 0) (k (.int 1)) (bin (addG) (v 3) (k (.int 1)))) (sSeq (sSet 4 (bin (addG) (bin (mulG) (k (.int c1)) (v 3)) (k (.int c2)))) (sSeq (sIf (tst (bin (eqG true) (bin ixG (v 0) (k (.int 0))) (lstE (aNil)))) (sSeq (sSet 4 (bin ixG (bin ixG (v 0) (k (.int 0))) (bin (modG) (cal intB (aCons (v 3) (aNil))) (cal lenB (aCons (bin ixG (v 0) (k (.int 0))) (aNil)))))) (sNil)) (sNil)) (sSeq (sIf (tAn (tst (bin (ltG) (v 3) (cal lenB (aCons (bin ixG (v 0) (k (.int 0))) (aNil))))) (tst (bin (geG) (cal absB (aCons (v 4) (aNil))) (bin (powG) (k (.int 10)) (k (.int 18)))))) (sSeq (sSet 5 (bin (addG) (bin (mulG) (k (.int 2)) (bin (subG) (cal absB (aCons (v 4) (aNil))) (bin (powG) (k (.int 10)) (k (.int 18))))) (cal intB (aCons (bin (ltG) (v 4) (k (.int 0))) (aNil))))) (sSeq (sSub (v 0) (k (.int 2)) (bin (fdivG) (cal intB (aCons (v 5) (aNil))) (v 1))) (sSeq (sRet (bin (modG) (cal intB (aCons (v 5) (aNil))) (v 1))) (sNil)))) (sNil)) (sSeq (sSet 6 (bin (modG) (cal intB (aCons (bin (powG) (bin (addG) (bin (addG) (bin (modG) (cal intB (aCons (v 4) (aNil))) (k (.int n1))) (bin (mulG) (k (.int c3)) (v 3))) (k (.int c4))) (k (.int 5))) (aNil))) (k (.int n2)))) (sSeq (sSet 6 (bin (modG) (cal intB (aCons (bin (powG) (bin (addG) (bin (addG) (bin (mulG) (v 6) (bin (addG) (bin (mulG) (k (.int 2)) (v 3)) (k (.int c5)))) (bin (mulG) (bin (mulG) (k (.int c6)) (v 3)) (v 3))) (k (.int c7))) (k (.int 3))) (aNil))) (k (.int n3)))) (sSeq (sRet (bin (modG) (cal intB (aCons (bin (fdivG) (v 6) (k (.int 32))) (aNil))) (v 1))) (sNil))))))))))
/-- a draw -/
theorem draw_okm {n1 n2 n3 c1 c2 c3 c4 c5 c6 c7 : Int} {S : Sto} {p : Nat} {B m : Int} (h : Pen S p B) (hB : B ≤ 1000000) (hm : 1 ≤ m) (hm' : m < 2 ^ 110) (g1 : 0 < n1 ∧ n1 ≤ 2147483648) (g2 : 0 < n2 ∧ n2 ≤ 2147483648) (g3 : 0 < n3 ∧ n3 ≤ 2147483648) (k1 : 0 ≤ c1 ∧ c1 < 1000000) (k3 : 0 ≤ c3 ∧ c3 < 1000000) (k4 : 0 ≤ c4 ∧ c4 < 1000000) (k5 : 0 ≤ c5 ∧ c5 < 1000000) (k6 : 0 ≤ c6 ∧ c6 < 1000000) (k7 : 0 ≤ c7 ∧ c7 < 1000000) :
    ∃ r S', dfn 2 7 (drawBm n1 n2 n3 c1 c2 c3 c4 c5 c6 c7) [.loc p, .int m] S = .ok (.int r) S' ∧ 0 ≤ r ∧ r < m ∧ SamePen p S S' ∧ Pen S' p (B + 1) := by
  have hlt := h.lt
  obtain ⟨cs, a, r, hS, hc, ha, haB⟩ := h
  have hd : divOk m = true := divOk_small (by omega) (by omega)
  have hm0 : 0 < m := by omega
  have setp : ∀ cs' a' r', (S.set p (penC cs' a' r'))[p]? = some (penC cs' a' r') := fun cs' a' r' => by rw [List.getElem?_set_self hlt]
  by_cases hr : 0 < r
  · refine ⟨r % m, S.set p (penC cs a (r / m)), run_ok rfl (List.length_set ..) ?_, Int.emod_nonneg _ (by omega), Int.emod_lt_of_pos _ hm0, ⟨cs, a, r / m, rfl⟩, cs, a, r / m, setp _ _ _, hc, ha, by omega⟩
    simp [drawBm, sSeq, sIf, tst, bin, v, k, isB, Out.bind, pen2 hS, gtG, hr, sSet, cal, aCons, aNil, intB, modG, hm0, sSub, fdivG, hd, sRet, fin, hS, penC, ixN]
  · -- a cell is mixed
    obtain ⟨S1, eS1⟩ : ∃ S1, S1 = S.set p (penC cs (a + 1) r) := ⟨_, rfl⟩
    have hS1 : S1[p]? = some (penC cs (a + 1) r) := by rw [eS1]; exact setp _ _ _
    have hset : S.set p (.lst [.lst (cs.map .int), .int (a + 1), .int r]) = S1 := eS1.symm
    have hpen : Pen S1 p (B + 1) := ⟨cs, a + 1, r, hS1, hc, by omega, by omega⟩
    have hsame : SamePen p S S1 := ⟨cs, a + 1, r, eS1⟩
    have hlen : S1.length = S.length := hsame.len
    have ra : -(2 ^ 64 : Int) < a ∧ a < 2 ^ 64 := by omega
    -- the cell
    obtain ⟨x, hx⟩ : ∃ x : Int, x = if cs = [] then c1 * a + c2 else cs.getD (a % (cs.length : Int)).toNat 0 := ⟨_, rfl⟩
    have pre : ∀ (K : MS), (sSeq (sSet 3 (bin ixG (v 0) (k (.int 1)))) (sSeq (sSub (v 0) (k (.int 1)) (bin (addG) (v 3) (k (.int 1)))) (sSeq (sSet 4 (bin (addG) (bin (mulG) (k (.int c1)) (v 3)) (k (.int c2)))) (sSeq (sIf (tst (bin (eqG true) (bin ixG (v 0) (k (.int 0))) (lstE (aNil)))) (sSeq (sSet 4 (bin ixG (bin ixG (v 0) (k (.int 0))) (bin (modG) (cal intB (aCons (v 3) (aNil))) (cal lenB (aCons (bin ixG (v 0) (k (.int 0))) (aNil)))))) (sNil)) (sNil)) K)))) [some (.loc p), some (.int m), none, none, none, none, none] S = K [some (.loc p), some (.int m), none, some (.int a), some (.int x), none, none] S1 := by
      intro K
      have m1 : mulOk c1 a = true := mulOk_l (by omega) (by omega)
      by_cases hcs : cs = []
      · subst hcs
        rw [if_pos rfl] at hx
        have e0 := eqD_lnil []
        simp only [List.map_nil] at e0
        have p0 := pen0 hS1
        simp only [List.map_nil] at p0 hset
        simp [sSeq, sSet, sSub, sIf, tst, bin, v, k, isB, Out.bind, pen1 hS, addG, hS, penC, ixN, hset, mulG, m1, p0, lstE, aNil, eqG, e0, hx, sNil]
      · rw [if_neg hcs] at hx
        have hl0 : 0 < cs.length := List.length_pos_iff.mpr hcs
        have i0 : 0 ≤ a % (cs.length : Int) := Int.emod_nonneg _ (by omega)
        have i1 : a % (cs.length : Int) < cs.length := Int.emod_lt_of_pos _ (by omega)
        have hne : ¬ (cs = []) := hcs
        simp [sSeq, sSet, sSub, sIf, tst, bin, v, k, isB, Out.bind, pen1 hS, addG, hS, penC, ixN, hset, mulG, m1, pen0 hS1, lstE, aNil, aCons, cal, eqG, eqD_lnil, hne, intB, lenB, modG, hl0, ix_ints i0 i1, hx, sNil]
    have r0 : ¬ (0 < r) := hr
    have st : drawBm n1 n2 n3 c1 c2 c3 c4 c5 c6 c7 [some (.loc p), some (.int m), none, none, none, none, none] S = drawTm n1 n2 n3 c3 c4 c5 c6 c7 [some (.loc p), some (.int m), none, some (.int a), some (.int x), none, none] S1 := by
      refine Eq.trans ?_ (pre (drawTm n1 n2 n3 c3 c4 c5 c6 c7))
      show (Out.bind (sIf _ _ _ _ _) _) = _
      have e1 : (sIf (tst (bin gtG (bin ixG (v 0) (k (.int 2))) (k (.int 0)))) (sSeq (sSet 2 (bin (modG) (cal intB (aCons (bin ixG (v 0) (k (.int 2))) (aNil))) (v 1))) (sSeq (sSub (v 0) (k (.int 2)) (bin (fdivG) (cal intB (aCons (bin ixG (v 0) (k (.int 2))) (aNil))) (v 1))) (sSeq (sRet (v 2)) (sNil)))) sNil) [some (.loc p), some (.int m), none, none, none, none, none] S = .ok (.nx [some (.loc p), some (.int m), none, none, none, none, none]) S := by
        simp [sIf, tst, bin, v, k, isB, Out.bind, pen2 hS, gtG, r0, sNil]
      rw [e1]
      rfl
    have hrun : ∀ {d : D} {S' : Sto}, S'.length = S.length → fin (drawTm n1 n2 n3 c3 c4 c5 c6 c7 [some (.loc p), some (.int m), none, some (.int a), some (.int x), none, none] S1) = .ok d S' → dfn 2 7 (drawBm n1 n2 n3 c1 c2 c3 c4 c5 c6 c7) [.loc p, .int m] S = .ok d S' := fun {d S'} hl h => run_ok rfl hl (by rw [← h]; exact congrArg fin st)
    have pw : powOk 10 18 = true := by decide
    have ax : absB [.int x] S1 = .ok (.int (if x < 0 then -x else x)) S1 := rfl
    by_cases hg : a < cs.length ∧ 10 ^ 18 ≤ (if x < 0 then -x else x)
    · obtain ⟨y, hy⟩ : ∃ y : Int, y = 2 * ((if x < 0 then -x else x) - 10 ^ 18) + (if x < 0 then 1 else 0) := ⟨_, rfl⟩
      refine ⟨y % m, S1.set p (penC cs (a + 1) (y / m)), hrun (by rw [List.length_set, hlen]) ?_, Int.emod_nonneg _ (by omega), Int.emod_lt_of_pos _ hm0, hsame.trans ⟨cs, a + 1, y / m, rfl⟩, cs, a + 1, y / m, by rw [List.getElem?_set_self (by omega)], hc, by omega, by omega⟩
      have m2 : ∀ z, mulOk 2 z = true := fun z => mulOk_l (by omega) (by omega)
      have hg1 := hg.1
      have hg2 := hg.2
      simp only [Int.reducePow] at hg2 hy
      by_cases hx0 : x < 0
      · simp only [hx0, if_true] at hy hg2
        simp [drawTm, sSeq, sIf, tAn, tst, bin, v, k, isB, Out.bind, ltG, cal, aCons, aNil, lenB, pen0 hS1, hg1, geG, powG, pw, hg2, sSet, mulG, m2, subG, addG, intB, hx0, ← hy, sSub, fdivG, hd, hS1, penC, ixN, sRet, modG, hm0, fin, absB]
      · simp only [hx0, if_false] at hy hg2
        simp [drawTm, sSeq, sIf, tAn, tst, bin, v, k, isB, Out.bind, ltG, cal, aCons, aNil, lenB, pen0 hS1, hg1, geG, powG, pw, hg2, sSet, mulG, m2, subG, addG, intB, hx0, ← hy, sSub, fdivG, hd, hS1, penC, ixN, sRet, modG, hm0, fin, absB]
    · -- a mixed one
      obtain ⟨b1, hb1⟩ : ∃ b : Int, b = x % n1 + c3 * a + c4 := ⟨_, rfl⟩
      have c3a : 0 ≤ c3 * a ∧ c3 * a ≤ 1000000 * 1000000 := ⟨Int.mul_nonneg k3.1 ha, by
        have h1 : c3 * a ≤ 1000000 * a := Int.mul_le_mul_of_nonneg_right (by omega) ha
        omega⟩
      have x1 : 0 ≤ x % n1 := Int.emod_nonneg _ (by omega)
      have x2 : x % n1 < 2147483648 := Int.lt_of_lt_of_le (Int.emod_lt_of_pos _ g1.1) g1.2
      have p1 : powOk b1 5 = true := powOk_of (by decide) (by decide) (by omega)
      obtain ⟨d1, hd1⟩ : ∃ d : Int, d = b1 ^ 5 % n2 := ⟨_, rfl⟩
      have d10 : 0 ≤ d1 := by rw [hd1]; exact Int.emod_nonneg _ (by omega)
      have d11 : d1 < 2147483648 := by rw [hd1]; exact Int.lt_of_lt_of_le (Int.emod_lt_of_pos _ g2.1) g2.2
      obtain ⟨b2, hb2⟩ : ∃ b : Int, b = d1 * (2 * a + c5) + c6 * a * a + c7 := ⟨_, rfl⟩
      have q1 : 0 ≤ d1 * (2 * a + c5) ∧ d1 * (2 * a + c5) ≤ 2147483648 * 3000000 := ⟨Int.mul_nonneg d10 (by omega), by
        have h1 : d1 * (2 * a + c5) ≤ 2147483648 * (2 * a + c5) := Int.mul_le_mul_of_nonneg_right (by omega) (by omega)
        omega⟩
      have c6a : 0 ≤ c6 * a ∧ c6 * a ≤ 1000000 * 1000000 := ⟨Int.mul_nonneg k6.1 ha, by
        have h1 : c6 * a ≤ 1000000 * a := Int.mul_le_mul_of_nonneg_right (by omega) ha
        omega⟩
      have q2 : 0 ≤ c6 * a * a ∧ c6 * a * a ≤ 1000000 * 1000000 * 1000000 := ⟨Int.mul_nonneg c6a.1 ha, by
        have h1 : c6 * a * a ≤ 1000000 * 1000000 * a := Int.mul_le_mul_of_nonneg_right c6a.2 ha
        omega⟩
      have p2 : powOk b2 3 = true := powOk_of (by decide) (by decide) (by omega)
      obtain ⟨d2, hd2⟩ : ∃ d : Int, d = b2 ^ 3 % n3 := ⟨_, rfl⟩
      refine ⟨d2 / 32 % m, S1, hrun hlen ?_, Int.emod_nonneg _ (by omega), Int.emod_lt_of_pos _ hm0, hsame, hpen⟩
      have m3 : mulOk c3 a = true := mulOk_l (by omega) (by omega)
      have m4 : mulOk 2 a = true := mulOk_l (by omega) (by omega)
      have m5 : mulOk d1 (2 * a + c5) = true := mulOk_l (by omega) (by omega)
      have m6 : mulOk c6 a = true := mulOk_l (by omega) (by omega)
      have m7 : mulOk (c6 * a) a = true := mulOk_l (by omega) (by omega)
      have d32 : divOk 32 = true := by decide
      have tail : (sSeq (sSet 6 (bin (modG) (cal intB (aCons (bin (powG) (bin (addG) (bin (addG) (bin (modG) (cal intB (aCons (v 4) (aNil))) (k (.int n1))) (bin (mulG) (k (.int c3)) (v 3))) (k (.int c4))) (k (.int 5))) (aNil))) (k (.int n2)))) (sSeq (sSet 6 (bin (modG) (cal intB (aCons (bin (powG) (bin (addG) (bin (addG) (bin (mulG) (v 6) (bin (addG) (bin (mulG) (k (.int 2)) (v 3)) (k (.int c5)))) (bin (mulG) (bin (mulG) (k (.int c6)) (v 3)) (v 3))) (k (.int c7))) (k (.int 3))) (aNil))) (k (.int n3)))) (sSeq (sRet (bin (modG) (cal intB (aCons (bin (fdivG) (v 6) (k (.int 32))) (aNil))) (v 1))) (sNil)))) [some (.loc p), some (.int m), none, some (.int a), some (.int x), none, none] S1 = .ok (.rt (.int (d2 / 32 % m))) S1 := by
        simp [sSeq, sSet, bin, v, k, Out.bind, cal, aCons, aNil, intB, modG, g1.1, g2.1, g3.1, mulG, m3, addG, ← hb1, powG, p1, ← hd1, m4, m5, m6, m7, ← hb2, p2, ← hd2, fdivG, d32, hm0, sRet]
      have test : (tAn (tst (bin (ltG) (v 3) (cal lenB (aCons (bin ixG (v 0) (k (.int 0))) (aNil))))) (tst (bin (geG) (cal absB (aCons (v 4) (aNil))) (bin (powG) (k (.int 10)) (k (.int 18)))))) [some (.loc p), some (.int m), none, some (.int a), some (.int x), none, none] S1 = .ok false S1 := by
        by_cases hg1 : a < cs.length
        · have hg2 : ¬ (1000000000000000000 ≤ if x < 0 then -x else x) := fun z => hg ⟨hg1, z⟩
          simp [tAn, tst, bin, v, k, isB, Out.bind, ltG, cal, aCons, aNil, lenB, pen0 hS1, hg1, geG, powG, pw, absB, hg2]
        · simp [tAn, tst, bin, v, k, isB, Out.bind, ltG, cal, aCons, aNil, lenB, pen0 hS1, hg1]
      show fin (Out.bind (Out.bind (tAn _ _ _ _) _) _) = _
      rw [test]
      show fin (sSeq _ _ _ _) = _
      rw [tail]
      rfl
end PV
set_option Elab.async false
set_option linter.all false
set_option maxRecDepth 100000
set_option maxHeartbeats 4000000
/-! Q12: the draw of laws with moduli of their own. -/
namespace PV
open PySem
theorem drawS_ofm {n1 n2 n3 c1 c2 c3 c4 c5 c6 c7 : Int} (g1 : 0 < n1 ∧ n1 ≤ 2147483648) (g2 : 0 < n2 ∧ n2 ≤ 2147483648) (g3 : 0 < n3 ∧ n3 ≤ 2147483648) (k1 : 0 ≤ c1 ∧ c1 < 1000000) (k3 : 0 ≤ c3 ∧ c3 < 1000000) (k4 : 0 ≤ c4 ∧ c4 < 1000000) (k5 : 0 ≤ c5 ∧ c5 < 1000000) (k6 : 0 ≤ c6 ∧ c6 < 1000000) (k7 : 0 ≤ c7 ∧ c7 < 1000000) : DrawS (dfn 2 7 (drawBm n1 n2 n3 c1 c2 c3 c4 c5 c6 c7)) := by
  intro S p B m Q E h hB hm hm' q
  obtain ⟨r, S', e, h0, h1, h2, h3⟩ := draw_okm (n1 := n1) (n2 := n2) (n3 := n3) (c1 := c1) (c2 := c2) (c3 := c3) (c4 := c4) (c5 := c5) (c6 := c6) (c7 := c7) h hB hm hm' g1 g2 g3 k1 k3 k4 k5 k6 k7
  exact wp_eq e (q r S' h0 h1 h2 h3)
end PV
set_option Elab.async false
set_option linter.all false
set_option maxRecDepth 100000
set_option maxHeartbeats 4000000
/-! Q13: plain runs of what P64 and P65 bring. -/
namespace PV
open PySem
section
variable {S S1 : Sto} {Q : D → Sto → Prop} {E : XQ} {ρ : Ev} {a m mx : ME} {ms ms2 : MA} {N B C : Ev → Sto → Prop} {R : D → Sto → Prop}
theorem wp_ic {τ : List (String × D)} {f c : String} {x y : D} {fs : List (String × D)} (h1 : insOf S x = some (c, fs)) (h2 : τ.lookup c = some y) (h3 : fs.lookup f = none) (q : Q y S) : Wp (icG τ f x S) Q E := wp_eq (by
  unfold icG
  simp only [h1, h2, h3]) q
def mtKNQ (τ : List (String × Fn)) (n : String) (k : Nat) (ms : MA) (ρ : Ev) (x : D) (S1 : Sto) : Out D := match insOf S1 x with
  | some (c, fs) => match τ.lookup c with
    | some F => match fs.lookup n with
      | none => (ms ρ S1).bind fun ds S2 => if ds.length = k then F (x :: ds) S2 else .no
      | some _ => .no
    | none => .no
  | none => .no
theorem Q_mtKN {τ : List (String × Fn)} {n : String} {k : Nat} : Wp (mtKN τ n k a ms ρ S) Q E = Wp (a ρ S) (fun x S1 => Wp (mtKNQ τ n k ms ρ x S1) Q E) E := Q_bind
theorem wp_mtKNQ {τ : List (String × Fn)} {n C : String} {k : Nat} {x : D} {fs : List (String × D)} {F : Fn} (e1 : insOf S x = some (C, fs)) (e2 : τ.lookup C = some F) (e3 : fs.lookup n = none) (q : Wp (ms ρ S) (fun ds S2 => ds.length = k ∧ Wp (F (x :: ds) S2) Q E) E) : Wp (mtKNQ τ n k ms ρ x S) Q E := by
  unfold mtKNQ
  simp only [e1, e2, e3]
  exact wp_bind (q.imp (fun ds S2 q => by rw [if_pos q.1]; exact q.2) fun _ _ _ q => q)
def mtPKQ (τ : List (String × Fn)) (n : String) (i k : Nat) (ms ks : MA) (ρ : Ev) (x : D) (S1 : Sto) : Out D := match insOf S1 x with
  | some (c, fs) => match τ.lookup c with
    | some F => match fs.lookup n with
      | none => (ms ρ S1).bind fun xs S2 => (ks ρ S2).bind fun ys S3 => if xs.length = i ∧ ys.length = k then F (x :: (xs ++ ys)) S3 else .no
      | some _ => .no
    | none => .no
  | none => .no
theorem Q_mtPK {τ : List (String × Fn)} {n : String} {i k : Nat} : Wp (mtPK τ n i k a ms ms2 ρ S) Q E = Wp (a ρ S) (fun x S1 => Wp (mtPKQ τ n i k ms ms2 ρ x S1) Q E) E := Q_bind
theorem wp_mtPKQ {τ : List (String × Fn)} {n C : String} {i k : Nat} {x : D} {fs : List (String × D)} {F : Fn} (e1 : insOf S x = some (C, fs)) (e2 : τ.lookup C = some F) (e3 : fs.lookup n = none)
    (q : Wp (ms ρ S) (fun xs S2 => Wp (ms2 ρ S2) (fun ys S3 => (xs.length = i ∧ ys.length = k) ∧ Wp (F (x :: (xs ++ ys)) S3) Q E) E) E) : Wp (mtPKQ τ n i k ms ms2 ρ x S) Q E := by
  unfold mtPKQ
  simp only [e1, e2, e3]
  exact wp_bind (q.imp (fun xs S2 q => wp_bind (q.imp (fun ys S3 q => by rw [if_pos q.1]; exact q.2) fun _ _ _ q => q)) fun _ _ _ q => q)
def mtcQ (r : MC) (d : D) (ρ : Ev) (S1 : Sto) : Out Fl := match d with
  | .str z => r z ρ S1
  | _ => .no
theorem Q_mtc {r : MC} : Ws (sMtc m r ρ S) N R B C E = Wp (m ρ S) (fun d S1 => Ws (mtcQ r d ρ S1) N R B C E) E := Q_sbind
theorem Q_mtcs {r : MC} {z : Str} : Ws (mtcQ r (.str z) ρ S) N R B C E = Ws (r z ρ S) N R B C E := rfl
theorem Q_mcN {z : Str} : Ws (mcN z ρ S) N R B C E = Ws (sNil ρ S) N R B C E := rfl
theorem Q_mcW {z : Str} {b : MS} : Ws (mcW b z ρ S) N R B C E = Ws (b ρ S) N R B C E := rfl
theorem ws_mcT {c z : Str} {b : MS} {r : MC} (h : z = c) (q : Ws (b ρ S) N R B C E) : Ws (mcC c b r z ρ S) N R B C E := by
  unfold mcC
  rw [if_pos h]
  exact q
theorem ws_mcF {c z : Str} {b : MS} {r : MC} (h : z ≠ c) (q : Ws (r z ρ S) N R B C E) : Ws (mcC c b r z ρ S) N R B C E := by
  unfold mcC
  rw [if_neg h]
  exact q
end
end PV
-- Q9
set_option Elab.async false
set_option linter.all false
set_option maxRecDepth 100000
set_option maxHeartbeats 4000000
-- simp: st1, st2, st3, st4, nn1, nn2, nn3, nn4
namespace K08
open PySem PV
theorem e_need {cs : List Nat} {a k : Int} (h : Gr cs a) (k0 : 0 ≤ k) (k1 : k < cs.length) {S : Sto} : F_Ring_need_pit [ringD cs a, .int k] S = .ok .non S := by
  have l6 := h.s.l6
  refine eq_of_wp (wp_dfn rfl ?_)
  (repeat (first | simp -dsimp -implicitDefEqProofs only [st1, st2, st3, st4, nn1, nn2, nn3, nn4] | k_upd))
  refine wp_lens (by rw [mkS_len]; omega) ?_
  rw [mkS_len]
  (repeat (first | simp -dsimp -implicitDefEqProofs only [st1, st2, st3, st4, nn1, nn2, nn3, nn4] | k_upd))
  refine btw_wp k0 (by omega) ?_
  (repeat (first | simp -dsimp -implicitDefEqProofs only [st1, st2, st3, st4, nn1, nn2, nn3, nn4] | k_upd))
theorem e_opp {cs : List Nat} {a k : Int} (h : Gr cs a) (k0 : 0 ≤ k) (k1 : k < cs.length) {S : Sto} : F_Ring_opposite [ringD cs a, .int k] S = .ok (.int ((a - k) % (cs.length : Int))) S := by
  have l6 := h.s.l6
  refine eq_of_wp (wp_dfn rfl ?_)
  (repeat (first | simp -dsimp -implicitDefEqProofs only [st1, st2, st3, st4, nn1, nn2, nn3, nn4] | k_upd))
  refine wp_eq (e_need h k0 k1) ?_
  (repeat (first | simp -dsimp -implicitDefEqProofs only [st1, st2, st3, st4, nn1, nn2, nn3, nn4] | k_upd))
  refine wp_lens (by rw [mkS_len]; omega) ?_
  rw [mkS_len]
  (repeat (first | simp -dsimp -implicitDefEqProofs only [st1, st2, st3, st4, nn1, nn2, nn3, nn4] | k_upd))
  refine wp_mod (by omega) ?_
  (repeat (first | simp -dsimp -implicitDefEqProofs only [st1, st2, st3, st4, nn1, nn2, nn3, nn4] | k_upd))
/-- whose pit -/
def plD (c : Nat) : D := if c = 97 then .int 0 else if c = 98 then .int 1 else .non
theorem cps_ab : ("ab" : Str).cps.toList = [97, 98] := by decide +kernel
theorem ix_ab0 {S : Sto} : indexG (.str "ab") (.str (oneS 97)) S = .ok (.int 0) S := by
  unfold indexG
  have e : Builtin.Str.occurrences ("ab" : Str) (oneS 97) 0 ("ab" : Str).length 1 = [0] := by decide +kernel
  simp only [e]
  rfl
theorem ix_ab1 {S : Sto} : indexG (.str "ab") (.str (oneS 98)) S = .ok (.int 1) S := by
  unfold indexG
  have e : Builtin.Str.occurrences ("ab" : Str) (oneS 98) 0 ("ab" : Str).length 1 = [1] := by decide +kernel
  simp only [e]
  rfl
theorem at_of {cs : List Nat} {k : Int} (k0 : 0 ≤ k) (k1 : k < cs.length) : cs[k.toNat]? = some (cs.getD k.toNat 0) := by
  have : k.toNat < cs.length := by omega
  rw [List.getD_eq_getElem?_getD, List.getElem?_eq_getElem this]
  rfl
theorem e_player {cs : List Nat} {a k : Int} (h : Gr cs a) (k0 : 0 ≤ k) (k1 : k < cs.length) {S : Sto} : F_Ring_player_of [ringD cs a, .int k] S = .ok (plD (cs.getD k.toNat 0)) S := by
  have l6 := h.s.l6
  have e := at_of k0 k1
  refine eq_of_wp (wp_dfn rfl ?_)
  (repeat (first | simp -dsimp -implicitDefEqProofs only [st1, st2, st3, st4, nn1, nn2, nn3, nn4] | k_upd))
  refine wp_eq (e_need h k0 k1) ?_
  (repeat (first | simp -dsimp -implicitDefEqProofs only [st1, st2, st3, st4, nn1, nn2, nn3, nn4] | k_upd))
  refine wp_ixs k0 e (by omega) ?_
  (repeat (first | simp -dsimp -implicitDefEqProofs only [st1, st2, st3, st4, nn1, nn2, nn3, nn4] | k_upd))
  refine wp_in ?_
  rw [cps_ab]
  unfold plD
  generalize cs.getD k.toNat 0 = c at e ⊢
  by_cases c1 : c = 97
  · subst c1
    (repeat (first | simp -dsimp -implicitDefEqProofs only [st1, st2, st3, st4, nn1, nn2, nn3, nn4] | k_upd))
    refine wp_t (by decide) ?_
    (repeat (first | simp -dsimp -implicitDefEqProofs only [st1, st2, st3, st4, nn1, nn2, nn3, nn4] | k_upd))
    refine wp_ixs k0 e (by omega) ?_
    (repeat (first | simp -dsimp -implicitDefEqProofs only [st1, st2, st3, st4, nn1, nn2, nn3, nn4] | k_upd))
    refine wp_eq ix_ab0 ?_
    (repeat (first | simp -dsimp -implicitDefEqProofs only [st1, st2, st3, st4, nn1, nn2, nn3, nn4] | k_upd))
  · by_cases c2 : c = 98
    · subst c2
      (repeat (first | simp -dsimp -implicitDefEqProofs only [st1, st2, st3, st4, nn1, nn2, nn3, nn4] | k_upd))
      refine wp_t (by decide) ?_
      (repeat (first | simp -dsimp -implicitDefEqProofs only [st1, st2, st3, st4, nn1, nn2, nn3, nn4] | k_upd))
      refine wp_ixs k0 e (by omega) ?_
      (repeat (first | simp -dsimp -implicitDefEqProofs only [st1, st2, st3, st4, nn1, nn2, nn3, nn4] | k_upd))
      refine wp_eq ix_ab1 ?_
      (repeat (first | simp -dsimp -implicitDefEqProofs only [st1, st2, st3, st4, nn1, nn2, nn3, nn4] | k_upd))
    · (repeat (first | simp -dsimp -implicitDefEqProofs only [st1, st2, st3, st4, nn1, nn2, nn3, nn4] | k_upd))
      refine wp_f (by simp [c1, c2]) ?_
      (repeat (first | simp -dsimp -implicitDefEqProofs only [st1, st2, st3, st4, nn1, nn2, nn3, nn4] | k_upd))
      exact gq_same ⟨by rw [if_neg c1, if_neg c2], rfl⟩
/-- where a store is -/
def stD (cs : List Nat) (c : Nat) : D := if c ∈ cs then (match Builtin.Str.occurrences (mkS cs) (oneS c) 0 cs.length 1 with | i :: _ => .int (i : Nat) | [] => .non) else .non
theorem mkS_cps (cs : List Nat) : (mkS cs).cps.toList = cs := by simp [mkS]
theorem occ_at {cs : List Nat} {c : Nat} (h : c ∈ cs) : ∃ i r, Builtin.Str.occurrences (mkS cs) (oneS c) 0 cs.length 1 = i :: r ∧ i < cs.length := by
  have z := strIn_one c (mkS cs)
  rw [mkS_cps, decide_eq_true h] at z
  unfold strIn at z
  rw [mkS_len] at z
  cases e : Builtin.Str.occurrences (mkS cs) (oneS c) 0 cs.length 1 with
  | nil => rw [e] at z; cases z
  | cons i r =>
    have := (StrLaws.occ_spec (mkS cs) (oneS c) 0 cs.length 1 i (by rw [e]; exact List.mem_cons_self)).1
    exact ⟨i, r, rfl, by have h1 : (oneS c).length = 1 := rfl; omega⟩
theorem ix_st {cs : List Nat} {c : Nat} (h : c ∈ cs) {S : Sto} : indexG (.str (mkS cs)) (.str (oneS c)) S = .ok (stD cs c) S := by
  obtain ⟨i, r, e, _⟩ := occ_at h
  unfold indexG stD
  rw [if_pos h]
  simp only [mkS_len, e]
/-- the sign of a player's store, pit -/
def sgA (w : Int) : Nat := if w = 0 then 65 else 66
def sga (w : Int) : Nat := if w = 0 then 97 else 98
theorem ixAB {w : Int} (h : w = 0 ∨ w = 1) {S : Sto} : ixG (.str "AB") (.int w) S = .ok (.str (oneS (sgA w))) S := by
  rcases h with rfl | rfl
  · rfl
  · rfl
theorem e_who {w : Int} (h : w = 0 ∨ w = 1) {S : Sto} : F_need_player [.int w] S = .ok .non S := by
  refine eq_of_wp (wp_dfn rfl ?_)
  (repeat (first | simp -dsimp -implicitDefEqProofs only [st1, st2, st3, st4, nn1, nn2, nn3, nn4] | k_upd))
  refine btw_wp (by omega) (by omega) ?_
  (repeat (first | simp -dsimp -implicitDefEqProofs only [st1, st2, st3, st4, nn1, nn2, nn3, nn4] | k_upd))
theorem e_store {cs : List Nat} {a w : Int} (h : Gr cs a) (hw : w = 0 ∨ w = 1) {S : Sto} : F_Ring_store_of [ringD cs a, .int w] S = .ok (stD cs (sgA w)) S := by
  refine eq_of_wp (wp_dfn rfl ?_)
  (repeat (first | simp -dsimp -implicitDefEqProofs only [st1, st2, st3, st4, nn1, nn2, nn3, nn4] | k_upd))
  refine wp_eq (e_who hw) ?_
  (repeat (first | simp -dsimp -implicitDefEqProofs only [st1, st2, st3, st4, nn1, nn2, nn3, nn4] | k_upd))
  refine wp_eq (ixAB hw) ?_
  (repeat (first | simp -dsimp -implicitDefEqProofs only [st1, st2, st3, st4, nn1, nn2, nn3, nn4] | k_upd))
  refine wp_in ?_
  rw [mkS_cps]
  by_cases c : sgA w ∈ cs
  · rw [decide_eq_true c]
    (repeat (first | simp -dsimp -implicitDefEqProofs only [st1, st2, st3, st4, nn1, nn2, nn3, nn4] | k_upd))
    refine wp_eq (ixAB hw) ?_
    (repeat (first | simp -dsimp -implicitDefEqProofs only [st1, st2, st3, st4, nn1, nn2, nn3, nn4] | k_upd))
    refine wp_eq (ix_st c) ?_
    (repeat (first | simp -dsimp -implicitDefEqProofs only [st1, st2, st3, st4, nn1, nn2, nn3, nn4] | k_upd))
  · rw [decide_eq_false c]
    (repeat (first | simp -dsimp -implicitDefEqProofs only [st1, st2, st3, st4, nn1, nn2, nn3, nn4] | k_upd))
    exact gq_same ⟨by unfold stD; rw [if_neg c], rfl⟩
end K08
-- Q9
-- Q13
set_option Elab.async false
set_option linter.all false
set_option maxRecDepth 100000
set_option maxHeartbeats 4000000
local macro_rules | `(tactic| k_upd) => `(tactic| first | simp -dsimp -implicitDefEqProofs only [PV.Q_ok, PV.Q_ex, PV.Q_v0, PV.Q_vs, PV.Q_k, PV.Q_bin, PV.Q_una, PV.Q_cal, PV.Q_nil, PV.Q_cons, PV.Q_star, PV.Q_tst, PV.Q_tru, PV.Q_no, PV.Q_an, PV.Q_or, PV.Q_ifE, PV.Q_anE, PV.Q_orE, PV.Q_anD, PV.Q_orD, PV.Q_noE, PV.Q_chn, PV.Q_chD, PV.Q_t, PV.Q_f, PV.Q_T, PV.Q_F, PV.Q_tup, PV.Q_lst, PV.Q_lstM, PV.Q_cm, PV.Q_sm, PV.Q_mt, PV.Q_mtK, PV.Q_mthL, PV.Q_mthS, PV.Q_isStr, PV.Q_itemsF, PV.Q_sli, PV.Q_oNo, PV.Q_oSo, PV.Q_add, PV.Q_addI, PV.Q_sub, PV.Q_neg, PV.Q_eqI, PV.Q_neI, PV.Q_lt, PV.Q_le, PV.Q_gt, PV.Q_ge, PV.Q_isN, PV.Q_int, PV.Q_intb, PV.Q_abs, PV.Q_lenl, PV.Q_lent, PV.Q_tupl, PV.Q_tupt, PV.Q_listl, PV.Q_listt, PV.Q_onlyB, PV.Q_notB, PV.Q_ixt0, PV.Q_ixt1, PV.Q_ixt2, PV.Q_ixt3, PV.Q_ixl0, PV.Q_ixl1, PV.Q_ixl2, PV.Q_ixl3, PV.Q_seq, PV.Q_sNil, PV.Q_ret, PV.Q_retN, PV.Q_exp, PV.Q_set, PV.Q_if, PV.Q_brk, PV.Q_cnt, PV.Q_st, PV.Q_sf, PV.Q_nx, PV.Q_sT, PV.Q_sF, PV.Q_par, PV.Q_parQ, PV.Q_asg, PV.Q_asgN, PV.Q_asg2, PV.Q_asg3, PV.Q_asg4, PV.Q_aug, PV.Q_augQ, PV.Q_iSeq, PV.Q_seqL, PV.Q_seqT, PV.Q_seqS, PV.Q_iR1, PV.Q_iR2, PV.Q_iEn, PV.Q_iZp, PV.Q_zpl, PV.Q_zpt, PV.Q_frz, PV.Q_lns, PV.Q_dc, PV.Q_iEs, PV.Q_ens, PV.Q_enl, PV.Q_ent, PV.Q_par3, PV.Q_parc3, PV.Q_rai, PV.Q_rai0, PV.Q_rai1, PV.Q_rai2, PV.Q_gxs, PV.Q_bind, PV.Q_sbind, PV.Q_sT_NoneType_int, PV.Q_sT_NoneType_bool, PV.Q_sT_NoneType_str, PV.Q_sT_NoneType_list, PV.Q_sT_NoneType_tuple, PV.Q_sT_bool_int, PV.Q_sT_bool_bool, PV.Q_sT_bool_str, PV.Q_sT_bool_list, PV.Q_sT_bool_tuple, PV.Q_sT_int_int, PV.Q_sT_int_bool, PV.Q_sT_int_str, PV.Q_sT_int_list, PV.Q_sT_int_tuple, PV.Q_sT_str_int, PV.Q_sT_str_bool, PV.Q_sT_str_str, PV.Q_sT_str_list, PV.Q_sT_str_tuple, PV.Q_sT_tuple_int, PV.Q_sT_tuple_bool, PV.Q_sT_tuple_str, PV.Q_sT_tuple_list, PV.Q_sT_tuple_tuple, PV.Q_sT_list_int, PV.Q_sT_list_bool, PV.Q_sT_list_str, PV.Q_sT_list_list, PV.Q_sT_list_tuple, PV.Q_sT_dict_int, PV.Q_sT_dict_bool, PV.Q_sT_dict_str, PV.Q_sT_dict_list, PV.Q_sT_dict_tuple, PV.Q_nn_i, PV.Q_nn_n, PV.Q_nn_t, PV.Q_nn_l, PV.Q_nn_s, PV.Q_nn_b, PV.Q_nn_d, PV.Q_nn_o, PV.Q_mtKN, PV.Q_mtPK, PV.Q_mtc, PV.Q_mtcs, PV.Q_mcN, PV.Q_mcW, PV.truD, List.map_cons, List.map_nil, List.cons_append, List.nil_append, Nat.reduceSub, List.reduceReplicate, List.set_cons_zero, List.set_cons_succ, Bool.not_true, Bool.not_false, Bool.not_not, Bool.false_xor, Bool.true_xor, Bool.false_eq_true, and_self, true_and, and_true, PV.wipeD, PV.Tg.slots] | ((with_reducible apply PV.wp_ic); (focus rfl); (focus rfl); (focus rfl)) | ((with_reducible apply PV.wp_mtKNQ); (focus rfl); (focus rfl); (focus rfl)) | ((with_reducible apply PV.wp_mtPKQ); (focus rfl); (focus rfl); (focus rfl)) | ((with_reducible apply PV.ws_mcT); (focus rfl)) | ((with_reducible apply PV.ws_mcF); (focus decide +kernel)) | ((with_reducible apply PV.wp_fld); (focus rfl); (focus rfl); (focus rfl)) | ((with_reducible apply PV.wp_isi); (focus rfl)) | ((with_reducible apply PV.wp_isiA); (focus rfl)) | ((with_reducible apply PV.wp_lstQ); (focus exact Nat.le_of_ble_eq_true rfl)) | ((with_reducible apply PV.wp_tupQ); (focus exact Nat.le_of_ble_eq_true rfl)) | ((with_reducible apply PV.wp_lstMQ); (focus exact Nat.le_of_ble_eq_true rfl)) | ((with_reducible apply PV.wp_mtQ); (focus rfl); (focus rfl); (focus rfl)) | ((with_reducible apply PV.wp_mtKQ); (focus rfl); (focus rfl)) | ((with_reducible apply PV.wp_r1Q); (focus exact PV.near62_of (by omega) (by omega))) | ((with_reducible apply PV.wp_r2Q); (focus exact PV.near62_of (by omega) (by omega)); (focus exact PV.near62_of (by omega) (by omega))) | ((with_reducible apply PV.wp_ofLen); (focus rfl)) | ((with_reducible apply PV.wp_isx); (focus rfl)) | ((with_reducible apply PV.wp_fldx); (focus rfl)) | ((with_reducible apply PV.wp_kw); (focus rfl)) | ((with_reducible apply PV.ws_asgQ); (focus rfl)) | ((with_reducible apply PV.ex1); (focus rfl)) | ((with_reducible apply And.intro); (focus rfl)) | with_reducible exact PV.gq_same ⟨rfl, rfl⟩ | with_reducible exact ⟨rfl, rfl⟩)
namespace K08
open PySem PV
/-! ends -/
inductive Pl | own | other | store | theirs | opn | any
deriving DecidableEq
def Pl.s : Pl → Str
  | .own => "own"
  | .other => "other"
  | .store => "store"
  | .theirs => "theirs"
  | .opn => "open"
  | .any => "any"
inductive Kd | quiet | again | take | across | takeagain
deriving DecidableEq
def Kd.w : Kd → Str
  | .quiet => "quiet"
  | .again => "again"
  | .take => "take"
  | .across => "across"
  | .takeagain => "takeagain"
def Kd.c : Kd → String
  | .quiet => "Quiet"
  | .again => "Again"
  | .take => "Take"
  | .across => "Across"
  | .takeagain => "TakeAgain"
/-- an end -/
structure En where
  k : Kd
  p : Pl
  t : Tv
  f : Bool
def endF (p : Pl) (t : Tv) (f : Bool) : List (String × D) := [("where", .str p.s), ("held", hd t), ("full", .bl f)]
def En.d (e : En) : D := .obj e.k.c (endF e.p e.t e.f)
theorem und_end (p : Pl) (t : Tv) (f : Bool) (n : Nat) : belowf n (endF p t f) = true := by
  have := und_hd t n
  unfold hd at this
  simp [endF, belowf, hd, D.und] at this ⊢
  exact this
theorem pl_in (p : Pl) {n : Bool} {S : Sto} : inG n (.str p.s) (.tup [.str "own", .str "other", .str "store", .str "theirs", .str "open", .str "any"]) S = .ok (.bl (n ^^ true)) S := by
  cases p <;> cases n <;> rfl
theorem init_end {c : String} (hc : ["Across", "Again", "End", "Quiet", "Take", "TakeAgain"].contains c = true) (p : Pl) (t : Tv) {S : Sto} : F_EndD_initD [.loc S.length, .str p.s, hd t] (S ++ [Cell.ins c []]) = .ok .non (S ++ [Cell.ins c (endF p t false)]) := by
  refine eq_of_wp (wp_dfn rfl ?_)
  (repeat k_upd)
  refine wp_eq (pl_in p) ?_
  (repeat k_upd)
  have e0 : (S ++ [Cell.ins c []])[S.length]? = some (.ins c []) := by simp
  refine ws_fld ?_
  (repeat k_upd)
  refine ⟨_, _, _, rfl, e0, ⟨hc, by decide⟩, ?_⟩
  (repeat k_upd)
  refine ws_fld ?_
  (repeat k_upd)
  refine ⟨_, _, _, rfl, List.getElem?_set_self (by simp), ⟨hc, by show 1 < 1000; decide⟩, ?_⟩
  (repeat k_upd)
  refine ws_fld ?_
  (repeat k_upd)
  refine ⟨_, _, _, rfl, List.getElem?_set_self (by simp), ⟨hc, by show 2 < 1000; decide⟩, ?_⟩
  (repeat k_upd)
  exact gq_len (by simp) ⟨rfl, by simp [endF, putD, List.lookup]⟩
theorem mk_end (k : Kd) (p : Pl) (t : Tv) (S : Sto) : mkF k.c F_EndD_initD [.str p.s, hd t] S = .ok (En.d ⟨k, p, t, false⟩) S :=
  mkF_of (fs := endF p t false) ((init_end (by cases k <;> rfl) p t).trans (by simp)) (und_end _ _ _ _)
end K08
-- Q9
-- Q13
set_option Elab.async false
set_option linter.all false
set_option maxRecDepth 100000
set_option maxHeartbeats 4000000
namespace K08
open PySem PV
theorem ins_loc {S : Sto} {n : Nat} {c : String} {fs : List (String × D)} (h : S[n]? = some (.ins c fs)) : insOf S (.loc n) = some (c, fs) := by
  unfold insOf
  simp only [h]
theorem init_acr (p : Pl) (t : Tv) (f : Bool) {S : Sto} : dfn 4 4 B_AcrossD_initD [.loc S.length, .str p.s, hd t, .bl f] (S ++ [Cell.ins "Across" []]) = .ok .non (S ++ [Cell.ins "Across" (endF p t f)]) := by
  refine eq_of_wp (wp_dfn rfl ?_)
  unfold B_AcrossD_initD
  (repeat k_upd)
  refine wp_mtQ (C := "Across") (fs := []) (ins_loc (by simp)) rfl rfl ?_
  (repeat k_upd)
  refine wp_eq (init_end rfl p t) ?_
  (repeat k_upd)
  have e0 : (S ++ [Cell.ins "Across" (endF p t false)])[S.length]? = some (.ins "Across" (endF p t false)) := by simp
  refine ws_fld ?_
  (repeat k_upd)
  refine ⟨_, _, _, rfl, e0, ⟨rfl, by show 3 < 1000; decide⟩, ?_⟩
  (repeat k_upd)
  exact gq_len (by simp) ⟨rfl, by simp [endF, putD, List.lookup]⟩
theorem mk_acr (p : Pl) (t : Tv) (f : Bool) (S : Sto) : mkF "Across" F_AcrossD_initD [.str p.s, hd t, .bl f] S = .ok (En.d ⟨.across, p, t, f⟩) S :=
  mkF_of (fs := endF p t f) ((runD (init_acr p t f)).trans (by simp)) (und_end _ _ _ _)
theorem mk_acr0 (p : Pl) (t : Tv) (S : Sto) : mkF "Across" F_AcrossD_initD [.str p.s, hd t] S = .ok (En.d ⟨.across, p, t, false⟩) S :=
  mkF_of (fs := endF p t false) ((runD (init_acr p t false)).trans (by simp)) (und_end _ _ _ _)
theorem mk_acrK (p : Pl) (t : Tv) (f : Bool) (S : Sto) : mkF "Across" (kwF [0, 3, 2, 1] [.bl false] (dfn 4 4 B_AcrossD_initD)) [.bl f, hd t, .str p.s] S = .ok (En.d ⟨.across, p, t, f⟩) S :=
  mkF_of (fs := endF p t f) ((show _ = _ from init_acr p t f).trans (by simp)) (und_end _ _ _ _)
/-! where an end acts -/
def tgt : Pl → Int → Nat
  | .own, w => sga w
  | .other, w => sga (1 - w)
  | .store, w => sgA w
  | .theirs, w => sgA (1 - w)
  | .opn, _ => 111
  | .any, _ => 0
def Pl.at (p : Pl) (w : Int) (c : Nat) : Bool := decide (p = .any) || decide (c = tgt p w)
theorem eq_pl {c : Nat} {w : Int} (hw : w = 0 ∨ w = 1) (n : Bool) (S : Sto) : eqG n (plD c) (.int w) S = .ok (.bl (n ^^ decide (c = sga w))) S := by
  have e : eqD (plD c) (.int w) = some (decide (c = sga w)) := by
    unfold plD
    rcases hw with rfl | rfl
    · by_cases c1 : c = 97
      · subst c1; rfl
      · rw [if_neg c1]
        have : decide (c = sga 0) = false := decide_eq_false (by simpa [sga] using c1)
        rw [this]
        split <;> rfl
    · by_cases c1 : c = 98
      · subst c1; rfl
      · rw [if_neg c1]
        have : decide (c = sga 1) = false := decide_eq_false (by simpa [sga] using c1)
        rw [this]
        split <;> rfl
  unfold eqG
  simp only [e]
theorem occ_uni {cs : List Nat} (h : Gs cs) {c i k : Nat} (hc : c ∈ [65, 66]) (hi : cs[i]? = some c) (hk : cs[k]? = some c) : i = k := by
  have nd := h.nd
  refine Classical.byContradiction fun ne => ?_
  have two : ∀ (l : List Nat) (i k : Nat), i < k → l[i]? = some c → l[k]? = some c → ¬ (l.filter fun c => decide (c ∈ [65, 66])).Nodup := by
    intro l
    induction l with
    | nil => intro i k _ h1; simp at h1
    | cons x xs ih =>
      intro i k hlt h1 h2 hn
      cases i with
      | zero =>
        cases k with
        | zero => omega
        | succ k =>
          have ex : x = c := by simpa using h1
          subst ex
          have hm : x ∈ xs := List.mem_of_getElem? (by simpa using h2)
          rw [List.filter_cons_of_pos (by simpa using hc), List.nodup_cons] at hn
          exact hn.1 (List.mem_filter.mpr ⟨hm, by simpa using hc⟩)
      | succ i =>
        cases k with
        | zero => omega
        | succ k =>
          refine ih i k (by omega) (by simpa using h1) (by simpa using h2) ?_
          rw [List.filter_cons] at hn
          split at hn
          · exact (List.nodup_cons.mp hn).2
          · exact hn
  rcases Nat.lt_or_gt_of_ne ne with h1 | h1
  · exact two cs i k h1 hi hk nd
  · exact two cs k i h1 hk hi nd
theorem occ_is {cs : List Nat} {c i : Nat} (z : Builtin.Str.subAt (mkS cs) (oneS c) i = true) (hi : i < cs.length) : cs[i]? = some c := by
  unfold Builtin.Str.subAt at z
  have e : (mkS cs).cps.extract i (i + (oneS c).length) = (oneS c).cps := eq_of_beq z
  have e2 := congrArg (fun a : Array Nat => a.toList) e
  have h1 : (oneS c).length = 1 := rfl
  have h2 : (oneS c).cps.toList = [c] := rfl
  have h3 : (mkS cs).cps.toList = cs := mkS_cps cs
  simp only [h1, h2, Array.toList_extract, List.extract_eq_take_drop, h3] at e2
  have e3 := congrArg (fun l : List Nat => l[0]?) e2
  simp at e3
  rw [List.getElem?_eq_getElem hi]
  rw [List.getElem?_eq_getElem hi] at e3
  simpa using e3
theorem eq_st {cs : List Nat} (h : Gs cs) {c : Nat} {k : Int} (hc : c ∈ [65, 66]) (k0 : 0 ≤ k) (k1 : k < cs.length) (S : Sto) : eqG false (stD cs c) (.int k) S = .ok (.bl (decide (cs.getD k.toNat 0 = c))) S := by
  have e2 := at_of k0 k1
  have e : eqD (stD cs c) (.int k) = some (decide (cs.getD k.toNat 0 = c)) := by
    unfold stD
    by_cases m : c ∈ cs
    · rw [if_pos m]
      obtain ⟨i, r, eo, hi⟩ := occ_at m
      rw [eo]
      have ei : cs[i]? = some c := by
        have z := (StrLaws.occ_spec (mkS cs) (oneS c) 0 cs.length 1 i (by rw [eo]; exact List.mem_cons_self)).2
        exact occ_is z hi
      show some (decide ((i : Int) = k)) = _
      congr 1
      apply decide_eq_decide.mpr
      constructor
      · rintro rfl
        rw [Int.toNat_natCast] at e2 ⊢
        rw [ei] at e2
        exact (Option.some.inj e2).symm
      · intro q
        rw [q] at e2
        have := occ_uni h hc ei e2
        omega
    · rw [if_neg m]
      have : ¬ cs.getD k.toNat 0 = c := fun q => m (by rw [q] at e2; exact List.mem_of_getElem? e2)
      rw [decide_eq_false this]
      rfl
  unfold eqG
  simp only [e, Bool.false_xor]
end K08
-- Q9
-- Q13
set_option Elab.async false
set_option linter.all false
set_option maxRecDepth 100000
set_option maxHeartbeats 4000000
namespace K08
open PySem PV
theorem sgA_in (w : Int) : sgA w ∈ [65, 66] := by unfold sgA; split <;> decide
theorem w1 {w : Int} (h : w = 0 ∨ w = 1) : 1 - w = 0 ∨ 1 - w = 1 := by omega
theorem o_eq {c : Nat} (S : Sto) : eqG false (.str (oneS c)) (.str "o") S = .ok (.bl (decide (c = 111))) S := by
  have e : eqD (.str (oneS c)) (.str "o") = some (decide (c = 111)) := by
    rw [show ("o" : Str) = oneS 111 by decide +kernel, eqD_str]
    exact congrArg some (decide_eq_decide.mpr ⟨oneS_inj, fun e => by rw [e]⟩)
  unfold eqG
  simp only [e, Bool.false_xor]
section
variable {cs : List Nat} {a k w : Int} {S : Sto}
theorem isat (e : En) (h : Gr cs a) (hw : w = 0 ∨ w = 1) (k0 : 0 ≤ k) (k1 : k < cs.length) : dfn 4 5 B_End_is_at [e.d, ringD cs a, .int w, .int k] S = .ok (.bl (e.p.at w (cs.getD k.toNat 0))) S := by
  have l6 := h.s.l6
  refine eq_of_wp (wp_dfn rfl ?_)
  unfold B_End_is_at
  (repeat k_upd)
  refine wp_eq (e_who hw) ?_
  (repeat k_upd)
  refine wp_eq (e_player h k0 k1) ?_
  obtain ⟨kd, p, t, f⟩ := e
  (repeat k_upd)
  refine wp_fld (c := kd.c) (fs := endF p t f) (y := .str p.s) rfl (by cases kd <;> rfl) rfl ?_
  have ap : ∀ q : Pl, q ≠ .any → q.at w (cs.getD k.toNat 0) = decide (cs.getD k.toNat 0 = tgt q w) := fun q hq => by
    unfold Pl.at
    rw [decide_eq_false hq, Bool.false_or]
  cases p with
  | own =>
    unfold Pl.s
    (repeat k_upd)
    refine wp_eq (eq_pl hw false S) ?_
    exact gq_same ⟨by rw [Bool.false_xor]; exact (congrArg D.bl (ap .own (by decide))).symm, rfl⟩
  | other =>
    unfold Pl.s
    (repeat k_upd)
    refine wp_eq (eq_pl (w1 hw) false S) ?_
    exact gq_same ⟨by rw [Bool.false_xor]; exact (congrArg D.bl (ap .other (by decide))).symm, rfl⟩
  | store =>
    unfold Pl.s
    (repeat k_upd)
    refine wp_eq (e_store h hw) ?_
    (repeat k_upd)
    refine wp_eq (eq_st h.s (sgA_in w) k0 k1 S) ?_
    exact gq_same ⟨(congrArg D.bl (ap .store (by decide))).symm, rfl⟩
  | theirs =>
    unfold Pl.s
    (repeat k_upd)
    refine wp_eq (e_store h (w1 hw)) ?_
    (repeat k_upd)
    refine wp_eq (eq_st h.s (sgA_in _) k0 k1 S) ?_
    exact gq_same ⟨(congrArg D.bl (ap .theirs (by decide))).symm, rfl⟩
  | opn =>
    unfold Pl.s
    (repeat k_upd)
    refine wp_ixs k0 (at_of k0 k1) (by omega) ?_
    (repeat k_upd)
    refine wp_eq (o_eq S) ?_
    exact gq_same ⟨(congrArg D.bl (ap .opn (by decide))).symm, rfl⟩
  | any =>
    unfold Pl.s
    (repeat k_upd)
theorem e_isat (e : En) (h : Gr cs a) (hw : w = 0 ∨ w = 1) (k0 : 0 ≤ k) (k1 : k < cs.length) : F_End_is_at [e.d, ringD cs a, .int w, .int k] S = .ok (.bl (e.p.at w (cs.getD k.toNat 0))) S := isat e h hw k0 k1
end
/-! numbers in sets -/
def Tv.has (t : Tv) (n : Int) : Bool := if 3 < n then t.e else t.bit n.toNat
theorem e_hasn (t : Tv) {n : Int} (h : 0 ≤ n) {S : Sto} : F_HeldD_containsD [hd t, .int n] S = .ok (.bl (t.has n)) S := by
  refine eq_of_wp (wp_dfn rfl ?_)
  (repeat k_upd)
  refine wp_eq e_whole ?_
  (repeat k_upd)
  refine ws_df (by omega) ?_
  (repeat k_upd)
  unfold Tv.has
  by_cases c : 3 < n
  · refine wp_dt c ?_
    unfold hd
    (repeat k_upd)
    exact gq_same ⟨by rw [if_pos c], rfl⟩
  · refine wp_df c ?_
    unfold hd
    (repeat k_upd)
    refine wp_eq (in_tup n t.sel S) ?_
    refine gq_same ⟨?_, rfl⟩
    rw [if_neg c]
    congr 1
    by_cases b : t.bit n.toNat = true
    · rw [b, decide_eq_true ((mem_sel t n).mpr ⟨h, by omega, b⟩)]
    · rw [Bool.eq_false_iff.mpr b, decide_eq_false fun z => b ((mem_sel t n).mp z).2.2]
theorem in_held (t : Tv) {n : Int} (h : 0 ≤ n) {S : Sto} : inO [("Held", F_HeldD_containsD)] (inG false) (.int n) (hd t) S = .ok (.bl (t.has n)) S := by
  have e := e_hasn t h (S := S)
  show onlyB (F_HeldD_containsD [hd t, .int n] S) = _
  rw [e]
  rfl
theorem e_seeds {n : Int} (h : 0 ≤ n) {S : Sto} : F_need_seeds [.int n, .int 0] S = .ok .non S := by
  refine eq_of_wp (wp_dfn rfl ?_)
  (repeat k_upd)
  refine wp_eq e_whole ?_
  (repeat k_upd)
  refine ws_df (by omega) ?_
  (repeat k_upd)
section
variable {cs : List Nat} {a k w n m : Int} {S : Sto}
def En.fits (e : En) (w : Int) (c : Nat) (n m : Int) : Bool := e.p.at w c && (e.t.has n && (decide (0 < m) || !e.f))
theorem fits (e : En) (h : Gr cs a) (hw : w = 0 ∨ w = 1) (k0 : 0 ≤ k) (k1 : k < cs.length) (n0 : 0 ≤ n) (m0 : 0 ≤ m) : dfn 6 7 B_End_fits [e.d, ringD cs a, .int w, .int k, .int n, .int m] S = .ok (.bl (e.fits w (cs.getD k.toNat 0) n m)) S := by
  refine eq_of_wp (wp_dfn rfl ?_)
  unfold B_End_fits
  have hk : ∀ {q : D → Sto → Prop} {E : XQ}, q (.bl (e.p.at w (cs.getD k.toNat 0))) S → Wp (F_End_is_at [e.d, ringD cs a, .int w, .int k] S) q E := fun hq => wp_eq (e_isat e h hw k0 k1) hq
  (repeat k_upd)
  refine wp_mtQ (C := e.k.c) (F := F_End_is_at) (fs := endF e.p e.t e.f) rfl (by cases e.k <;> rfl) rfl ?_
  (repeat k_upd)
  refine hk ?_
  (repeat k_upd)
  refine wp_eq (e_seeds n0) ?_
  (repeat k_upd)
  refine wp_eq (e_seeds m0) ?_
  (repeat k_upd)
  unfold En.fits
  cases c : e.p.at w (cs.getD k.toNat 0) with
  | false =>
    (repeat k_upd)
  | true =>
    (repeat k_upd)
    refine wp_fld (c := e.k.c) (fs := endF e.p e.t e.f) (y := hd e.t) rfl (by cases e.k <;> rfl) rfl ?_
    refine wp_eq (in_held e.t n0) ?_
    (repeat k_upd)
    cases c2 : e.t.has n with
    | false =>
      (repeat k_upd)
    | true =>
      (repeat k_upd)
      by_cases c3 : 0 < m
      · refine wp_dt c3 ?_
        (repeat k_upd)
        exact gq_same ⟨by rw [decide_eq_true c3]; rfl, rfl⟩
      · refine wp_df c3 ?_
        (repeat k_upd)
        refine wp_fld (c := e.k.c) (fs := endF e.p e.t e.f) (y := .bl e.f) rfl (by cases e.k <;> rfl) rfl ?_
        (repeat k_upd)
        exact gq_same ⟨by rw [decide_eq_false c3]; rfl, rfl⟩
theorem e_fits (e : En) (h : Gr cs a) (hw : w = 0 ∨ w = 1) (k0 : 0 ≤ k) (k1 : k < cs.length) (n0 : 0 ≤ n) (m0 : 0 ≤ m) : F_End_fits [e.d, ringD cs a, .int w, .int k, .int n, .int m] S = .ok (.bl (e.fits w (cs.getD k.toNat 0) n m)) S := fits e h hw k0 k1 n0 m0
end
end K08
-- Q9
-- Q13
set_option Elab.async false
set_option linter.all false
set_option maxRecDepth 100000
set_option maxHeartbeats 4000000
namespace K08
open PySem PV
/-! the pits that an end takes -/
def two (x y : Int) : List Int := if x = y then [x] else if x < y then [x, y] else [y, x]
theorem sset_two (x y : Int) : ZN.sset [x, y] = two x y := ZN.asc_eq ZN.asc_sset (by
  unfold two
  split
  · simp
  · split <;> simp <;> omega) fun k => by
  rw [ZN.mem_sset]
  unfold two
  split
  · rename_i h; subst h; simp
  · split
    · simp
    · simp [or_comm]
def En.takes (e : En) (a : Int) (n : Nat) (k : Int) : List Int := match e.k with
  | .quiet => []
  | .again => []
  | .across => two k ((a - k) % (n : Int))
  | _ => [k]
noncomputable def tkB : Kd → MS
  | .take => B_Take_pits_taken
  | .takeagain => B_Take_pits_taken
  | .across => B_Across_pits_taken
  | _ => B_End_pits_taken
section
variable {cs : List Nat} {a k w n m : Int} {S : Sto}
theorem e_tk0 (e : En) (h : Gr cs a) (k0 : 0 ≤ k) (k1 : k < cs.length) : dfn 3 3 B_End_pits_taken [e.d, ringD cs a, .int k] S = .ok (.tup []) S := by
  refine eq_of_wp (wp_dfn rfl ?_)
  unfold B_End_pits_taken
  (repeat k_upd)
  refine wp_eq (e_need h k0 k1) ?_
  (repeat k_upd)
theorem e_tk1 (e : En) (hk : e.k = .take ∨ e.k = .takeagain) (h : Gr cs a) (k0 : 0 ≤ k) (k1 : k < cs.length) : dfn 3 3 B_Take_pits_taken [e.d, ringD cs a, .int k] S = .ok (.tup [.int k]) S := by
  refine eq_of_wp (wp_dfn rfl ?_)
  unfold B_Take_pits_taken
  have hk0 : ∀ {q : D → Sto → Prop} {E : XQ}, q (.tup []) S → Wp (F_End_pits_taken [e.d, ringD cs a, .int k] S) q E := fun hq => wp_eq (e_tk0 e h k0 k1) hq
  (repeat k_upd)
  refine wp_mtQ (C := e.k.c) (F := F_End_pits_taken) (fs := endF e.p e.t e.f) rfl (by rcases hk with hk | hk <;> rw [hk] <;> rfl) rfl ?_
  (repeat k_upd)
  refine hk0 ?_
  (repeat k_upd)
theorem e_tk2 (e : En) (h : Gr cs a) (k0 : 0 ≤ k) (k1 : k < cs.length) : dfn 3 3 B_Across_pits_taken [e.d, ringD cs a, .int k] S = .ok (.tup ((two k ((a - k) % (cs.length : Int))).map .int)) S := by
  refine eq_of_wp (wp_dfn rfl ?_)
  unfold B_Across_pits_taken
  (repeat k_upd)
  refine wp_eq (e_need h k0 k1) ?_
  (repeat k_upd)
  refine wp_eq (a := .lst ((two k ((a - k) % (cs.length : Int))).map .int)) (S := S) ?_ ?_
  · have e1 : lstE (aCons (cal intB (aCons (v 2) (aNil))) (aCons (cal intB (aCons (mtO [("Ring", F_Ring_opposite)] "opposite" (v 1) (aCons (v 2) (aNil))) (aNil))) (aNil))) [some e.d, some (ringD cs a), some (.int k)] S = .ok (.lst [.int k, .int ((a - k) % (cs.length : Int))]) S := by
      refine eq_of_wp ?_
      (repeat k_upd)
      refine wp_eq (e_opp h k0 k1) ?_
      (repeat k_upd)
    have e2 : asInts [.int k, .int ((a - k) % (cs.length : Int))] = some [k, (a - k) % (cs.length : Int)] := rfl
    unfold srtSet
    rw [e1]
    show (match asInts [.int k, .int ((a - k) % (cs.length : Int))] with
      | some ns => if ns.length < 64 then Out.ok (D.lst ((ZN.sset ns).map .int)) S else .no
      | none => .no) = _
    rw [e2]
    show (if 2 < 64 then Out.ok (D.lst ((ZN.sset [k, (a - k) % (cs.length : Int)]).map .int)) S else .no) = _
    rw [if_pos (by decide), sset_two]
  (repeat k_upd)
theorem e_tk (e : En) (h : Gr cs a) (k0 : 0 ≤ k) (k1 : k < cs.length) : dfn 3 3 (tkB e.k) [e.d, ringD cs a, .int k] S = .ok (.tup ((e.takes a cs.length k).map .int)) S := by
  unfold tkB En.takes
  cases hk : e.k with
  | quiet => exact e_tk0 e h k0 k1
  | again => exact e_tk0 e h k0 k1
  | take => exact e_tk1 e (.inl hk) h k0 k1
  | takeagain => exact e_tk1 e (.inr hk) h k0 k1
  | across => exact e_tk2 e h k0 k1
/-! what the law knows of an end -/
def toldD (e : En) (ns : List Int) : D := .tup [.str e.k.w, .str e.p.s, .tup [.lst (ns.map .int), .bl e.t.e], .bl e.f]
structure Told (e : En) (ns : List Int) : Prop where
  t : e.t = ofNs ns e.t.e
  n : ∀ n ∈ ns, 0 ≤ n ∧ n ≤ 3
  l : ns.length ≤ 4
  f : e.f = true → e.k = .across
theorem kd_in (kd : Kd) (S : Sto) : inG false (.str kd.w) (.tup [.str "quiet", .str "again"]) S = .ok (.bl (decide (kd = .quiet ∨ kd = .again))) S := by
  cases kd <;> rfl
theorem kd_eq (kd : Kd) (n : Bool) (S : Sto) : eqG n (.str kd.w) (.str "across") S = .ok (.bl (n ^^ decide (kd = .across))) S := by
  cases kd <;> cases n <;> rfl
theorem e_taken (e : En) (ns : List Int) (h : Gr cs a) (k0 : 0 ≤ k) (k1 : k < cs.length) : F_law_taken [toldD e ns, .int a, .int cs.length, .int k] S = .ok (.tup ((e.takes a cs.length k).map .int)) S := by
  have l6 := h.s.l6
  refine eq_of_wp (wp_dfn rfl ?_)
  unfold toldD
  (repeat k_upd)
  refine wp_eq (kd_in e.k S) ?_
  (repeat k_upd)
  by_cases c : e.k = .quiet ∨ e.k = .again
  · refine ws_dt c ?_
    (repeat k_upd)
    exact gq_same ⟨by unfold En.takes; rcases c with c | c <;> rw [c] <;> rfl, rfl⟩
  refine ws_df c ?_
  (repeat k_upd)
  refine wp_mod (by omega) ?_
  (repeat k_upd)
  refine wp_eq (kd_eq e.k true S) ?_
  (repeat k_upd)
  by_cases c2 : e.k = .across
  · rw [decide_eq_true c2]
    have e1 : e.takes a cs.length k = two k ((a - k) % (cs.length : Int)) := by unfold En.takes; rw [c2]
    rw [e1]
    (repeat k_upd)
    unfold two
    by_cases c3 : (a - k) % (cs.length : Int) = k
    · refine ws_dt c3 ?_
      (repeat k_upd)
      exact gq_same ⟨by rw [if_pos c3.symm]; rfl, rfl⟩
    · refine ws_df c3 ?_
      (repeat k_upd)
      by_cases c4 : k < (a - k) % (cs.length : Int)
      · refine wp_dt c4 ?_
        (repeat k_upd)
        exact gq_same ⟨by rw [if_neg (fun z => c3 z.symm), if_pos c4]; rfl, rfl⟩
      · refine wp_df c4 ?_
        (repeat k_upd)
        exact gq_same ⟨by rw [if_neg (fun z => c3 z.symm), if_neg c4]; rfl, rfl⟩
  · rw [decide_eq_false c2]
    (repeat k_upd)
    refine gq_same ⟨?_, rfl⟩
    unfold En.takes
    cases hk : e.k with
    | quiet => exact absurd (.inl hk) c
    | again => exact absurd (.inr hk) c
    | across => exact absurd hk c2
    | _ => rfl
end
end K08
-- Q9
-- Q13
set_option Elab.async false
set_option linter.all false
set_option maxRecDepth 100000
set_option maxHeartbeats 4000000
namespace K08
open PySem PV
theorem or_op (t u : Tv) (S : Sto) : binO "Held" F_HeldD_orD noG2 (hd t) (hd u) S = .ok (hd (t.or u)) S := by
  show okRes (F_HeldD_orD [hd t, hd u] S) = _
  rw [e_or]
  rfl
theorem mk_one {n : Int} (h : 0 ≤ n ∧ n ≤ 3) (S : Sto) : mkF "Held" F_HeldD_initD [.int n] S = .ok (hd (ofNs [n] false)) S :=
  mk_h (ns := [n]) (fun m hm => by rw [List.mem_singleton.mp hm]; exact h) (by show 1 < 64; decide)
theorem or_one (ns : List Int) (n : Int) : (ofNs ns false).or (ofNs [n] false) = ofNs (ns ++ [n]) false := by
  simp [ofNs, Tv.or, List.mem_append, Bool.decide_or]
theorem or_onw (ns : List Int) : (ofNs ns false).or (onw 4) = ofNs ns true := by
  simp [ofNs, Tv.or, onw]
theorem e_lheld {ns : List Int} (h : ∀ n ∈ ns, 0 ≤ n ∧ n ≤ 3) (b : Bool) (S : Sto) : F_law_held [.tup [.lst (ns.map .int), .bl b]] S = .ok (hd (ofNs ns b)) S := by
  refine eq_of_wp (wp_dfn rfl ?_)
  (repeat k_upd)
  refine wp_eq (e_none S) ?_
  (repeat k_upd)
  refine ws_for (fun j ρ S' => S' = S ∧ ∃ x2, ρ = [some (.tup [.lst (ns.map .int), .bl b]), some (hd (ofNs (ns.take j) false)), x2]) (wp_eq (a := (ns.map .int, none)) rfl ?_)
  refine ⟨fun _ _ _ _ => trivial, ⟨rfl, _, rfl⟩, ?_, ?_⟩
  · rintro j y hy ρ S' ⟨rfl, x2, rfl⟩
    have hy : (ns.map D.int)[j]? = some y := hy
    rw [List.getElem?_map] at hy
    obtain ⟨n, hn, rfl⟩ := Option.map_eq_some_iff.mp hy
    refine ⟨_, rfl, ?_⟩
    (repeat k_upd)
    refine wp_eq (mk_one (h n (List.mem_of_getElem? hn)) _) ?_
    (repeat k_upd)
    refine wp_eq (or_op _ _ _) ?_
    (repeat k_upd)
    exact ⟨_, by rw [or_one, List.take_add_one, hn]; rfl⟩
  · rintro ρ S' ⟨rfl, x2, rfl⟩
    rw [show ns.take (ns.map D.int).length = ns by rw [List.length_map, List.take_length]]
    (repeat k_upd)
    cases b with
    | true =>
      (repeat k_upd)
      refine wp_eq (e_onward (k := 4) (by decide) _) ?_
      (repeat k_upd)
      refine wp_eq (or_op _ _ _) ?_
      rw [or_onw]
      exact gq_same ⟨rfl, rfl⟩
    | false => (repeat k_upd)
theorem told_t {e : En} {ns : List Int} (h : Told e ns) (S : Sto) : F_law_held [.tup [.lst (ns.map .int), .bl e.t.e]] S = .ok (hd e.t) S := by
  rw [e_lheld h.n]
  exact congrArg (fun t => Out.ok (hd t) S) h.t.symm
/-! made -/
theorem kd_lit (kd : Kd) : (eqD (.str kd.w) (.str "quiet") = some (decide (kd = .quiet))) ∧ (eqD (.str kd.w) (.str "again") = some (decide (kd = .again))) ∧ (eqD (.str kd.w) (.str "take") = some (decide (kd = .take))) ∧ (eqD (.str kd.w) (.str "across") = some (decide (kd = .across))) ∧ (eqD (.str kd.w) (.str "takeagain") = some (decide (kd = .takeagain))) := by
  cases kd <;> exact ⟨rfl, rfl, rfl, rfl, rfl⟩
theorem e_made {e : En} {ns : List Int} (h : Told e ns) (S : Sto) : F_law_made [toldD e ns] S = .ok e.d S := by
  obtain ⟨k1, k2, k3, k4, _⟩ := kd_lit e.k
  refine eq_of_wp (wp_dfn rfl ?_)
  unfold toldD
  (repeat k_upd)
  refine wp_eq (told_t h S) ?_
  (repeat k_upd)
  refine wp_eqv k1 ?_
  have hf : e.k ≠ .across → e.f = false := fun z => by
    cases c : e.f with
    | false => rfl
    | true => exact absurd (h.f c) z
  obtain ⟨kd, p, t, f⟩ := e
  cases kd with
  | quiet =>
    have : f = false := hf (by simp)
    subst this
    (repeat k_upd)
    refine ws_dt (by trivial) ?_
    (repeat k_upd)
    exact wp_eq (mk_end .quiet p t S) (gq_same ⟨rfl, rfl⟩)
  | again =>
    have : f = false := hf (by simp)
    subst this
    (repeat k_upd)
    refine ws_df (by decide) ?_
    (repeat k_upd)
    refine wp_eqv k2 ?_
    (repeat k_upd)
    refine ws_dt (by trivial) ?_
    (repeat k_upd)
    exact wp_eq (mk_end .again p t S) (gq_same ⟨rfl, rfl⟩)
  | take =>
    have : f = false := hf (by simp)
    subst this
    (repeat k_upd)
    refine ws_df (by decide) ?_
    (repeat k_upd)
    refine wp_eqv k2 ?_
    (repeat k_upd)
    refine ws_df (by decide) ?_
    (repeat k_upd)
    refine wp_eqv k3 ?_
    (repeat k_upd)
    refine ws_dt (by trivial) ?_
    (repeat k_upd)
    exact wp_eq (mk_end .take p t S) (gq_same ⟨rfl, rfl⟩)
  | across =>
    (repeat k_upd)
    refine ws_df (by decide) ?_
    (repeat k_upd)
    refine wp_eqv k2 ?_
    (repeat k_upd)
    refine ws_df (by decide) ?_
    (repeat k_upd)
    refine wp_eqv k3 ?_
    (repeat k_upd)
    refine ws_df (by decide) ?_
    (repeat k_upd)
    refine wp_eqv k4 ?_
    (repeat k_upd)
    refine wp_dt (by trivial) ?_
    (repeat k_upd)
    exact wp_eq (mk_acr p t f S) (gq_same ⟨rfl, rfl⟩)
  | takeagain =>
    have : f = false := hf (by simp)
    subst this
    (repeat k_upd)
    refine ws_df (by decide) ?_
    (repeat k_upd)
    refine wp_eqv k2 ?_
    (repeat k_upd)
    refine ws_df (by decide) ?_
    (repeat k_upd)
    refine wp_eqv k3 ?_
    (repeat k_upd)
    refine ws_df (by decide) ?_
    (repeat k_upd)
    refine wp_eqv k4 ?_
    (repeat k_upd)
    refine wp_df (by decide) ?_
    (repeat k_upd)
    exact wp_eq (mk_end .takeagain p t S) (gq_same ⟨rfl, rfl⟩)
end K08
-- Q9
-- Q13
set_option Elab.async false
set_option linter.all false
set_option maxRecDepth 100000
set_option maxHeartbeats 4000000
namespace K08
open PySem PV
theorem dic_ok {kms : List (Str × ME)} {es : List (Str × D)} {ρ : Ev} {S : Sto} (h : dicL kms ρ (S ++ [.dic []]) = .ok es (S ++ [.dic []])) (hl : es.length ≤ 15 ∧ (es.map (·.1)).Nodup) : dicM kms ρ S = .ok (.loc S.length) (S ++ [.dic es]) := by
  unfold dicM
  rw [h]
  show dicQ S.length es (S ++ [.dic []]) = _
  unfold dicQ
  simp only [List.getElem?_concat_length, hl, and_self, if_true]
  simp
def spot : Pl → Int → Int
  | .own, w => w
  | .other, w => 1 - w
  | .store, w => 2 + w
  | .theirs, w => 3 - w
  | _, _ => 4
theorem sign_at (p : Pl) (hp : p ≠ .any) {w : Int} (hw : w = 0 ∨ w = 1) (S : Sto) : ixG (.str "abABo") (.int (spot p w)) S = .ok (.str (oneS (tgt p w))) S := by
  rcases hw with rfl | rfl <;> cases p <;> first | exact absurd rfl hp | rfl
def esL (w : Int) : List (Str × D) := [("own", .int w), ("other", .int (1 - w)), ("store", .int (2 + w)), ("theirs", .int (3 - w))]
theorem get_spot (p : Pl) (hp : p ≠ .any) {w : Int} {x0 x2 x4 x5 : Option D} (S : Sto) : gt2E (dicM [("own", v 1), ("other", bin (subG) (k (.int 1)) (v 1)), ("store", bin (addG) (k (.int 2)) (v 1)), ("theirs", bin (subG) (k (.int 3)) (v 1))]) (v 3) (k (.int 4)) [x0, some (.int w), x2, some (.str p.s), x4, x5] S = .ok (.int (spot p w)) (S ++ [.dic (esL w)]) := by
  have e1 : dicM [("own", v 1), ("other", bin (subG) (k (.int 1)) (v 1)), ("store", bin (addG) (k (.int 2)) (v 1)), ("theirs", bin (subG) (k (.int 3)) (v 1))] [x0, some (.int w), x2, some (.str p.s), x4, x5] S = .ok (.loc S.length) (S ++ [.dic (esL w)]) := dic_ok rfl ⟨by show 4 ≤ 15; decide, by show ([("own" : Str), "other", "store", "theirs"]).Nodup; decide +kernel⟩
  unfold gt2E
  rw [e1]
  have e2 : (S ++ [Cell.dic (esL w)])[S.length]? = some (.dic (esL w)) := by simp
  simp only [Out.bind, e2]
  show (match (S ++ [Cell.dic (esL w)])[S.length]? with
    | some (.dic es) => (match esG es p.s with
      | some d' => Out.ok d' (S ++ [Cell.dic (esL w)])
      | none => .ok (.int 4) (S ++ [Cell.dic (esL w)]))
    | _ => .no) = _
  rw [e2]
  cases p <;> first | exact absurd rfl hp | rfl
section
variable {cs : List Nat} {a k w n m : Int} {S : Sto}
theorem e_lat (p : Pl) (h : Gs cs) (hw : w = 0 ∨ w = 1) (k0 : 0 ≤ k) (k1 : k < cs.length) : F_law_is_at [.str (mkS cs), .int w, .int k, .str p.s] S = .ok (.bl (p.at w (cs.getD k.toNat 0))) S := by
  have l6 := h.l6
  refine eq_of_wp (wp_dfn rfl ?_)
  (repeat k_upd)
  refine wp_ixs k0 (at_of k0 k1) (by omega) ?_
  (repeat k_upd)
  have e1 : eqD (.str p.s) (.str "any") = some (decide (p = .any)) := by cases p <;> rfl
  refine wp_eqv e1 ?_
  (repeat k_upd)
  unfold Pl.at
  by_cases c : p = .any
  · refine ws_dt c ?_
    (repeat k_upd)
    exact gq_same ⟨by rw [decide_eq_true c]; rfl, rfl⟩
  refine ws_df c ?_
  (repeat k_upd)
  refine wp_eq (get_spot p c S) ?_
  (repeat k_upd)
  refine wp_eq (sign_at p c hw _) ?_
  refine wp_eqv (eqD_str _ _) ?_
  (repeat k_upd)
  refine gq_app rfl ⟨?_, rfl⟩
  rw [decide_eq_false c, Bool.false_or]
  exact congrArg D.bl (decide_eq_decide.mpr ⟨oneS_inj, fun e => by rw [e]⟩)
theorem has_told {e : En} {ns : List Int} (h : Told e ns) (n0 : 0 ≤ n) : e.t.has n = if n < 4 then decide (n ∈ ns) else e.t.e := by
  unfold Tv.has
  by_cases c : n < 4
  · rw [if_neg (by omega), if_pos c, h.t, bit_of ns e.t.e (by omega), Int.toNat_of_nonneg n0]
  · rw [if_pos (by omega), if_neg c]
theorem in_list (n : Int) (ns : List Int) (hl : ns.length ≤ 1000) (S : Sto) : inG false (.int n) (.lst (ns.map .int)) S = .ok (.bl (decide (n ∈ ns))) S := by
  have e1 : SeqAt.shaped (.int n) = true := by simp [SeqAt.shaped, PyData.canLay0, PyData.depth]
  have e2 : SeqAt.shaped (.list (ns.map PyData.int)) = true := shaped_lints ns
  simp only [inG, inD, toP, toPs_ints, e1, e2, and_self, if_true, PV.any_ints]
  simp
theorem e_lfits (e : En) {ns : List Int} (ht : Told e ns) (h : Gs cs) (hw : w = 0 ∨ w = 1) (k0 : 0 ≤ k) (k1 : k < cs.length) (n0 : 0 ≤ n) (m0 : 0 ≤ m) : F_law_fits [toldD e ns, .str (mkS cs), .int w, .int k, .int n, .int m] S = .ok (.bl (e.fits w (cs.getD k.toNat 0) n m)) S := by
  have l4 := ht.l
  refine eq_of_wp (wp_dfn rfl ?_)
  unfold toldD
  (repeat k_upd)
  refine wp_eq (e_lat e.p h hw k0 k1) ?_
  unfold En.fits
  rw [has_told ht n0]
  (repeat k_upd)
  cases c : e.p.at w (cs.getD k.toNat 0) with
  | false => (repeat k_upd)
  | true =>
    (repeat k_upd)
    cases cf : e.f with
    | true =>
      (repeat k_upd)
      by_cases c2 : m = 0
      · refine ws_dt c2 ?_
        (repeat k_upd)
        exact gq_same ⟨by rw [decide_eq_false (show ¬ 0 < m by omega)]; simp, rfl⟩
      · refine ws_df c2 ?_
        (repeat k_upd)
        by_cases c3 : n < 4
        · refine wp_dt c3 ?_
          (repeat k_upd)
          refine wp_eq (in_list n ns (by omega) S) ?_
          exact gq_same ⟨by rw [if_pos c3, decide_eq_true (show 0 < m by omega)]; simp, rfl⟩
        · refine wp_df c3 ?_
          (repeat k_upd)
          exact gq_same ⟨by rw [if_neg c3, decide_eq_true (show 0 < m by omega)]; simp, rfl⟩
    | false =>
      (repeat k_upd)
      by_cases c3 : n < 4
      · refine wp_dt c3 ?_
        (repeat k_upd)
        refine wp_eq (in_list n ns (by omega) S) ?_
        exact gq_same ⟨by rw [if_pos c3]; simp, rfl⟩
      · refine wp_df c3 ?_
        (repeat k_upd)
        exact gq_same ⟨by rw [if_neg c3]; simp, rfl⟩
end
end K08
-- Q9
-- Q13
set_option Elab.async false
set_option linter.all false
set_option maxRecDepth 100000
set_option maxHeartbeats 4000000
namespace K08
open PySem PV
/-! repr -/
theorem rep_ok {xs : List D} {p : PyData} (h : toP (.lst xs) = some p) (c : reprOk p = true) (S : Sto) : ∃ z, reprI reprB [.lst xs] S = .ok (.str z) S := ⟨p.shown, by
  show (match toP (.lst xs) with
    | some p => if reprOk p = true then Out.ok (D.str p.shown) S else .no
    | none => .no) = _
  rw [h]
  exact if_pos c⟩
theorem rep3 (kd : Kd) (p : Pl) (f : Bool) (S : Sto) : ∃ z, reprI reprB [.lst [.str kd.w, .str p.s, .bl f]] S = .ok (.str z) S :=
  rep_ok (p := .list [.str kd.w, .str p.s, .bool f]) (by simp [toP, toPs]) (by cases kd <;> cases p <;> cases f <;> decide +kernel) S
theorem rep2 (a b : Bool) (S : Sto) : ∃ z, reprI reprB [.lst [.bl a, .bl b]] S = .ok (.str z) S :=
  rep_ok (p := .list [.bool a, .bool b]) (by simp [toP, toPs]) (by cases a <;> cases b <;> decide +kernel) S
theorem repN2 (a b : Bool) (S : Sto) : ∃ z, reprN (reprI reprB) [.lst [.bl a, .bl b]] S = .ok (.str z) S := rep2 a b S
theorem add_lst {xs ys : List D} (h : xs.length ≤ 1000) (h' : ys.length ≤ 1000) {S : Sto} : addG (.lst xs) (.lst ys) S = .ok (.lst (xs ++ ys)) S := by
  have sl := PV.sizeLine_eq
  show (if _ then _ else _) = _
  rw [if_pos]
  unfold PV.fits
  exact decide_eq_true (by omega)
theorem repN1 (a : Bool) (S : Sto) : reprN (reprI reprB) [.bl a] S = .ok (.str (if a = true then "True" else "False")) S := rfl
abbrev CS : List String := ["Held", "Ring", "End", "Quiet", "Again", "Take", "Across", "TakeAgain"]
theorem ne_s {x y : Str} {S : Sto} : neO [("Held", F_HeldD_eqD)] CS (eqG true) (.str x) (.str y) S = .ok (.bl (!decide (x = y))) S := by
  show eqG true (.str x) (.str y) S = _
  unfold eqG
  rw [eqD_str]
  simp
theorem ne_h (t : Tv) (S : Sto) : neO [("Held", F_HeldD_eqD)] CS (eqG true) (hd t) (hd t) S = .ok (.bl false) S := by
  have e := e_eq t t S
  show notB (F_HeldD_eqD [hd t, hd t] S) = _
  rw [e, decide_eq_true rfl]
  rfl
def isT (k : Kd) : Bool := decide (k = .take ∨ k = .across ∨ k = .takeagain)
def isA (k : Kd) : Bool := decide (k = .again ∨ k = .takeagain)
theorem kin3 (kd : Kd) (S : Sto) : inG false (.str kd.w) (.tup [.str "take", .str "across", .str "takeagain"]) S = .ok (.bl (isT kd)) S := by cases kd <;> rfl
theorem kin2 (kd : Kd) (S : Sto) : inG false (.str kd.w) (.tup [.str "again", .str "takeagain"]) S = .ok (.bl (isA kd)) S := by cases kd <;> rfl
section
variable {S : Sto}
theorem e_kind (e : En) {ns : List Int} (ht : Told e ns) : F_law_kind_right [toldD e ns, e.d] S = .ok (.bl true) S := by
  obtain ⟨z3, h3⟩ := rep3 e.k e.p e.f S
  obtain ⟨z2, h2⟩ := rep2 (isT e.k) (isA e.k) S
  have htt := told_t ht S
  refine eq_of_wp (wp_dfn rfl ?_)
  unfold toldD
  (repeat k_upd)
  refine wp_fld (c := e.k.c) (fs := endF e.p e.t e.f) (y := hd e.t) rfl (by cases e.k <;> rfl) rfl ?_
  (repeat k_upd)
  refine wp_eq htt ?_
  (repeat k_upd)
  refine wp_eq (ne_h e.t S) ?_
  (repeat k_upd)
  refine wp_ic (c := e.k.c) (fs := endF e.p e.t e.f) (y := .str e.k.w) rfl (by cases e.k <;> rfl) rfl ?_
  (repeat k_upd)
  refine wp_fld (c := e.k.c) (fs := endF e.p e.t e.f) (y := .str e.p.s) rfl (by cases e.k <;> rfl) rfl ?_
  (repeat k_upd)
  refine wp_fld (c := e.k.c) (fs := endF e.p e.t e.f) (y := .bl e.f) rfl (by cases e.k <;> rfl) rfl ?_
  (repeat k_upd)
  refine wp_eq h3 ?_
  (repeat k_upd)
  refine wp_eq h3 ?_
  (repeat k_upd)
  refine wp_eq ne_s ?_
  (repeat k_upd)
  refine ws_nf (by trivial) ?_
  (repeat k_upd)
  refine wp_eq (kin3 e.k S) ?_
  (repeat k_upd)
  refine wp_eq (kin2 e.k S) ?_
  (repeat k_upd)
  refine wp_ic (c := e.k.c) (fs := endF e.p e.t e.f) (y := .bl (isT e.k)) rfl (by cases e.k <;> rfl) rfl ?_
  (repeat k_upd)
  refine wp_ic (c := e.k.c) (fs := endF e.p e.t e.f) (y := .bl (isA e.k)) rfl (by cases e.k <;> rfl) rfl ?_
  (repeat k_upd)
  refine wp_eq h2 ?_
  (repeat k_upd)
  refine wp_eq h2 ?_
  (repeat k_upd)
  refine wp_eq ne_s ?_
  (repeat k_upd)
  refine ws_nf (by trivial) ?_
  obtain ⟨kd, p, t, f⟩ := e
  clear h3 h2 htt ht
  obtain ⟨k1, _, _, k4, k5⟩ := kd_lit kd
  cases kd <;> ((repeat k_upd); refine wp_eq (add_lst (Nat.le_of_ble_eq_true rfl) (Nat.le_of_ble_eq_true rfl)) ?_; (repeat k_upd); refine wp_eqv k1 ?_; (repeat k_upd); refine wp_eqv k4 ?_; (repeat k_upd); refine wp_eqv k5 ?_; (repeat k_upd); refine wp_eqv (e := true) (by decide +kernel) ?_; (repeat k_upd))
end
end K08
-- Q9
-- Q13
set_option Elab.async false
set_option linter.all false
set_option maxRecDepth 100000
set_option maxHeartbeats 4000000
namespace K08
open PySem PV
theorem at2 {xs : List D} {j : Nat} {x : D} (h : xs[j]? = some x) : x ∈ xs := List.mem_of_getElem? h
section
variable {cs : List Nat} {a k w n m : Int} {S : Sto}
theorem e_acts (e : En) {ns : List Int} (ht : Told e ns) (h : Gr cs a) (k0 : 0 ≤ k) (k1 : k < cs.length) : F_law_acts_right [e.d, toldD e ns, ringD cs a, .int k] S = .ok (.bl true) S := by
  have fitsM : ∀ {w n m : Int} {Q : D → Sto → Prop} {E : XQ}, (w = 0 ∨ w = 1) → 0 ≤ n → 0 ≤ m → Q (.bl (e.fits w (cs.getD k.toNat 0) n m)) S → Wp (F_End_fits [e.d, ringD cs a, .int w, .int k, .int n, .int m] S) Q E := fun hw hn hm q => wp_eq (e_fits e h hw k0 k1 hn hm) q
  have fitsL : ∀ {w n m : Int} {Q : D → Sto → Prop} {E : XQ}, (w = 0 ∨ w = 1) → 0 ≤ n → 0 ≤ m → Q (.bl (e.fits w (cs.getD k.toNat 0) n m)) S → Wp (F_law_fits [toldD e ns, .str (mkS cs), .int w, .int k, .int n, .int m] S) Q E := fun hw hn hm q => wp_eq (e_lfits e ht h.s hw k0 k1 hn hm) q
  have isM : ∀ {w : Int} {Q : D → Sto → Prop} {E : XQ}, (w = 0 ∨ w = 1) → Q (.bl (e.p.at w (cs.getD k.toNat 0))) S → Wp (F_End_is_at [e.d, ringD cs a, .int w, .int k] S) Q E := fun hw q => wp_eq (e_isat e h hw k0 k1) q
  have isL : ∀ {w : Int} {Q : D → Sto → Prop} {E : XQ}, (w = 0 ∨ w = 1) → Q (.bl (e.p.at w (cs.getD k.toNat 0))) S → Wp (F_law_is_at [.str (mkS cs), .int w, .int k, .str e.p.s] S) Q E := fun hw q => wp_eq (e_lat e.p h.s hw k0 k1) q
  have isK : ∀ {w : Int} {Q : D → Sto → Prop} {E : XQ}, (w = 0 ∨ w = 1) → Q (.bl (e.p.at w (cs.getD k.toNat 0))) S → Wp (dfn 4 5 B_End_is_at [e.d, ringD cs a, .int w, .int k] S) Q E := fun hw q => wp_eq (isat e h hw k0 k1) q
  have fitsK : ∀ {w n m : Int} {Q : D → Sto → Prop} {E : XQ}, (w = 0 ∨ w = 1) → 0 ≤ n → 0 ≤ m → Q (.bl (e.fits w (cs.getD k.toNat 0) n m)) S → Wp (dfn 6 7 B_End_fits [e.d, ringD cs a, .int w, .int k, .int n, .int m] S) Q E := fun hw hn hm q => wp_eq (fits e h hw k0 k1 hn hm) q
  refine eq_of_wp (wp_dfn rfl ?_)
  (repeat k_upd)
  refine ws_for (fun j ρ S' => S' = S ∧ ∃ x4 x5 x6 x7 x8, ρ = [some e.d, some (toldD e ns), some (ringD cs a), some (.int k), x4, x5, x6, x7, x8]) ?_
  (repeat k_upd)
  refine ⟨fun _ _ _ _ => trivial, ⟨_, _, _, _, _, rfl⟩, ?_, ?_⟩
  · rintro j y hy ρ S' ⟨rfl, x4, x5, x6, x7, x8, rfl⟩
    have hw : ∃ w : Int, y = .int w ∧ (w = 0 ∨ w = 1) := by
      have := at2 hy
      simp only [List.mem_cons, List.not_mem_nil, or_false] at this
      rcases this with rfl | rfl
      · exact ⟨0, rfl, .inl rfl⟩
      · exact ⟨1, rfl, .inr rfl⟩
    obtain ⟨w, rfl, hw⟩ := hw
    refine ⟨_, rfl, ?_⟩
    unfold toldD
    (repeat k_upd)
    refine isL hw ?_
    (repeat k_upd)
    have lk : ∀ F : Fn, List.lookup e.k.c [("End", F), ("Quiet", F), ("Again", F), ("Take", F), ("Across", F), ("TakeAgain", F)] = some F := fun F => by cases e.k <;> rfl
    refine wp_mtQ (C := e.k.c) (F := F_End_is_at) (fs := endF e.p e.t e.f) rfl (lk _) rfl ?_
    (repeat k_upd)
    refine isM hw ?_
    (repeat k_upd)
    refine wp_mtKNQ (C := e.k.c) (fs := endF e.p e.t e.f) rfl (lk _) rfl ?_
    (repeat k_upd)
    refine isK hw ?_
    (repeat k_upd)
    obtain ⟨z, hz⟩ := repN2 (e.p.at w (cs.getD k.toNat 0)) (e.p.at w (cs.getD k.toNat 0)) S'
    refine wp_eq hz ?_
    (repeat k_upd)
    refine wp_eq hz ?_
    refine wp_eqv (eqD_str _ _) ?_
    (repeat k_upd)
    refine ws_nf (by trivial) ?_
    (repeat k_upd)
    refine ws_for (fun j ρ S'' => S'' = S' ∧ ∃ x5 x6 x7 x8, ρ = [some e.d, some (toldD e ns), some (ringD cs a), some (.int k), some (.int w), x5, x6, x7, x8]) ?_
    (repeat k_upd)
    refine wp_pow (by decide) ?_
    (repeat k_upd)
    refine ⟨fun _ _ _ _ => trivial, ⟨_, _, _, _, rfl⟩, ?_, ?_⟩
    · rintro j y hy ρ S'' ⟨rfl, x5, x6, x7, x8, rfl⟩
      have hn : ∃ n : Int, y = .int n ∧ 0 ≤ n := by
        have := at2 hy
        simp only [List.mem_cons, List.not_mem_nil, or_false] at this
        rcases this with rfl | rfl | rfl | rfl | rfl | rfl | rfl
        all_goals exact ⟨_, rfl, by decide⟩
      obtain ⟨n, rfl, n0⟩ := hn
      refine ⟨_, rfl, ?_⟩
      (repeat k_upd)
      refine ws_for (fun j ρ S3 => S3 = S'' ∧ ∃ x5 x6 x8, ρ = [some e.d, some (toldD e ns), some (ringD cs a), some (.int k), some (.int w), x5, x6, some (.int n), x8]) ?_
      (repeat k_upd)
      refine wp_pow (by decide) ?_
      (repeat k_upd)
      refine ⟨fun _ _ _ _ => trivial, ⟨_, _, _, rfl⟩, ?_, ?_⟩
      · rintro j y hy ρ S3 ⟨rfl, x5, x6, x8, rfl⟩
        have hm : ∃ m : Int, y = .int m ∧ 0 ≤ m := by
          have := at2 hy
          simp only [List.mem_cons, List.not_mem_nil, or_false] at this
          rcases this with rfl | rfl | rfl
          all_goals exact ⟨_, rfl, by decide⟩
        obtain ⟨m, rfl, m0⟩ := hm
        refine ⟨_, rfl, ?_⟩
        (repeat k_upd)
        refine fitsL hw n0 m0 ?_
        (repeat k_upd)
        refine wp_mtQ (C := e.k.c) (F := F_End_fits) (fs := endF e.p e.t e.f) rfl (lk _) rfl ?_
        (repeat k_upd)
        refine fitsM hw n0 m0 ?_
        (repeat k_upd)
        refine wp_eq (repN1 _ _) ?_
        (repeat k_upd)
        refine wp_eq (repN1 _ _) ?_
        refine wp_eqv (eqD_str _ _) ?_
        (repeat k_upd)
        refine ws_nf (by trivial) ?_
        (repeat k_upd)
        exact ⟨_, _, _, rfl⟩
      · rintro ρ S3 ⟨rfl, x5, x6, x8, rfl⟩
        (repeat k_upd)
        exact ⟨_, _, _, _, rfl⟩
    · rintro ρ S'' ⟨rfl, x5, x6, x7, x8, rfl⟩
      (repeat k_upd)
      exact ⟨_, _, _, _, _, rfl⟩
  · rintro ρ S' ⟨rfl, x4, x5, x6, x7, x8, rfl⟩
    (repeat k_upd)
    have lk : ∀ F : Fn, List.lookup e.k.c [("End", F), ("Quiet", F), ("Again", F), ("Take", F), ("Across", F), ("TakeAgain", F)] = some F := fun F => by cases e.k <;> rfl
    refine wp_mtPKQ (C := e.k.c) (fs := endF e.p e.t e.f) rfl (lk _) rfl ?_
    (repeat k_upd)
    refine ⟨⟨rfl, rfl⟩, ?_⟩
    (repeat k_upd)
    refine fitsK (.inl rfl) (show (0 : Int) ≤ 2 by decide) (show (0 : Int) ≤ 1 by decide) ?_
    (repeat k_upd)
    refine fitsL (.inl rfl) (show (0 : Int) ≤ 2 by decide) (show (0 : Int) ≤ 1 by decide) ?_
    refine wp_eqv eqD_bl ?_
    (repeat k_upd)
end
end K08
-- Q9
-- Q13
set_option Elab.async false
set_option linter.all false
set_option maxRecDepth 100000
set_option maxHeartbeats 4000000
namespace K08
open PySem PV
theorem dS : DrawS F_law_draw := drawS_ofm (n1 := 2147483477) (n2 := 2147483489) (n3 := 2147483497) (c1 := 46636) (c2 := 596) (c3 := 51904) (c4 := 108) (c5 := 77) (c6 := 50688) (c7 := 19) (by decide) (by decide) (by decide) (by decide) (by decide) (by decide) (by decide) (by decide) (by decide)
theorem pS : PickS F_law_pick := pickS_of dS
theorem add_str {a b : Str} {S : Sto} (h : a.length + b.length ≤ 1000) : addG (.str a) (.str b) S = .ok (.str (a ++ b)) S := by
  have sl := PV.sizeLine_eq
  show (if _ then _ else _) = _
  rw [if_pos]
  unfold PV.fits
  exact decide_eq_true (by omega)
theorem mk_nil : ("" : Str) = mkS [] := by decide +kernel
theorem sg_a : ("a" : Str) = oneS 97 := by decide +kernel
theorem sg_b : ("b" : Str) = oneS 98 := by decide +kernel
theorem sg_A : ("A" : Str) = oneS 65 := by decide +kernel
theorem sg_B : ("B" : Str) = oneS 66 := by decide +kernel
theorem sg_o : ("o" : Str) = oneS 111 := by decide +kernel
theorem w_signs {S : Sto} {B : Int} {Q : D → Sto → Prop} {E : XQ} (h : Pen S 0 B) (hB : B ≤ 900000) (q : ∀ cs S', Gs cs → SamePen 0 S S' → Pen S' 0 (B + 13) → Q (.str (mkS cs)) S') : Wp (F_law_signs [.loc 0] S) Q E := by
  refine wp_dfn rfl ?_
  rw [mk_nil, sg_a, sg_b, sg_A, sg_B, sg_o]
  (repeat k_upd)
  refine ws_for (fun j ρ S' => ∃ cs x2 x3, ρ = [some (.loc 0), some (.str (mkS cs)), x2, x3] ∧ cs.length = j ∧ j ≤ 100 ∧ (∀ c ∈ cs, c ∈ [97, 98, 65, 66, 111]) ∧ (cs.filter fun c => decide (c ∈ [65, 66])).Nodup ∧ SamePen 0 S S' ∧ Pen S' 0 (B + 1 + 2 * j)) ?_
  (repeat k_upd)
  refine dS h (by omega) (by decide) (by decide) fun r S1 r0 r1 s1 p1 => ?_
  (repeat k_upd)
  have hr : (2 + r).toNat ≤ 6 ∧ 2 ≤ (2 + r).toNat := by omega
  refine ⟨fun _ _ _ _ => trivial, ⟨[], _, _, rfl, rfl, by decide, by simp, by simp, s1, p1.mono (by omega)⟩, ?_, ?_⟩
  · rintro j x hx ρ S' ⟨cs, x2, x3, rfl, hl, hj0, ho, hn, hs, hb⟩
    obtain ⟨rfl, hj⟩ := ups_at hx
    refine ⟨_, rfl, ?_⟩
    (repeat k_upd)
    refine pS hb (by omega) (Nat.le_of_ble_eq_true rfl) (Nat.le_of_ble_eq_true rfl) fun i x S2 hi s2 p2 => ?_
    obtain ⟨c, rfl, hc⟩ : ∃ c, x = .str (oneS c) ∧ c ∈ [97, 98, 65, 66, 111] := by
      have := pick_mem hi
      simp only [List.mem_cons, List.not_mem_nil, or_false] at this
      rcases this with rfl | rfl | rfl | rfl | rfl | rfl | rfl <;> exact ⟨_, rfl, by decide⟩
    have fin : ∀ (c : Nat) (S3 : Sto) (y2 y3 : Option D), c ∈ [97, 98, 65, 66, 111] → (c ∈ [65, 66] → ¬ c ∈ cs) → SamePen 0 S S3 → Pen S3 0 (B + 1 + 2 * (j : Int) + 2) → ∃ cs' x2 x3, [some (D.loc 0), some (D.str (mkS (cs ++ [c]))), y2, y3] = [some (.loc 0), some (.str (mkS cs')), x2, x3] ∧ cs'.length = j + 1 ∧ j + 1 ≤ 100 ∧ (∀ c ∈ cs', c ∈ [97, 98, 65, 66, 111]) ∧ (cs'.filter fun c => decide (c ∈ [65, 66])).Nodup ∧ SamePen 0 S S3 ∧ Pen S3 0 (B + 1 + 2 * ((j + 1 : Nat) : Int)) := by
      intro c S3 y2 y3 h1 h2 hs3 hp3
      refine ⟨cs ++ [c], _, _, rfl, by simp [hl], by omega, fun d hd => ?_, ?_, hs3, hp3.mono (by omega)⟩
      · rcases List.mem_append.mp hd with hd | hd
        · exact ho d hd
        · rw [List.mem_singleton.mp hd]
          exact h1
      · rw [List.filter_append]
        by_cases c2 : c ∈ [65, 66]
        · rw [List.filter_cons_of_pos (by simpa using c2), List.filter_nil, List.nodup_append]
          exact ⟨hn, by simp, fun x hx y hy e => by
            rw [List.mem_singleton.mp hy] at e
            exact h2 c2 (e ▸ (List.mem_filter.mp hx).1)⟩
        · rw [List.filter_cons_of_neg (by simpa using c2), List.filter_nil, List.append_nil]
          exact hn
    have ad : ∀ (c : Nat) (S3 : Sto), addG (.str (mkS cs)) (.str (oneS c)) S3 = .ok (.str (mkS (cs ++ [c]))) S3 := fun c S3 => by
      rw [add_str (by rw [mkS_len, show (oneS c).length = 1 from rfl]; omega), oneS_eq, mkS_app]
    (repeat k_upd)
    refine wp_in ?_
    rw [cps_AB]
    (repeat k_upd)
    by_cases c1 : c ∈ [65, 66]
    · refine wp_dt c1 ?_
      (repeat k_upd)
      refine wp_in ?_
      rw [mkS_cps]
      (repeat k_upd)
      by_cases c2 : c ∈ cs
      · refine ws_dt c2 ?_
        (repeat k_upd)
        refine pS p2 (by omega) (Nat.le_of_ble_eq_true rfl) (Nat.le_of_ble_eq_true rfl) fun i x S3 hi s3 p3 => ?_
        obtain ⟨d, rfl, hd⟩ : ∃ d, x = .str (oneS d) ∧ d ∈ [97, 111] := by
          have := pick_mem hi
          simp only [List.mem_cons, List.not_mem_nil, or_false] at this
          rcases this with rfl | rfl <;> exact ⟨_, rfl, by decide⟩
        (repeat k_upd)
        refine wp_eq (ad _ _) ?_
        (repeat k_upd)
        have hd2 : d = 97 ∨ d = 111 := by simpa using hd
        exact fin d S3 _ _ (by rcases hd2 with rfl | rfl <;> decide) (fun z => by rcases hd2 with rfl | rfl <;> exact absurd z (by decide)) ((hs.trans s2).trans s3) (p3.mono (by omega))
      · refine ws_df c2 ?_
        (repeat k_upd)
        refine wp_eq (ad _ _) ?_
        (repeat k_upd)
        exact fin c S2 _ _ hc (fun _ => c2) (hs.trans s2) (p2.mono (by omega))
    · refine wp_df c1 ?_
      (repeat k_upd)
      refine wp_eq (ad _ _) ?_
      (repeat k_upd)
      exact fin c S2 _ _ hc (fun z => absurd z c1) (hs.trans s2) (p2.mono (by omega))
  · rintro ρ S' ⟨cs, x2, x3, rfl, hl, _, ho, hn, hs, hb⟩
    have hl : cs.length = (ups 0 (2 + r).toNat).length := hl
    rw [ups_len] at hl hb
    (repeat k_upd)
    exact gq_len hs.len (q cs S' ⟨by omega, by omega, ho, hn⟩ hs (hb.mono (by omega)))
theorem w_numbers {S : Sto} {B : Int} {Q : D → Sto → Prop} {E : XQ} (h : Pen S 0 B) (hB : B ≤ 900000) (q : ∀ (ns : List Int) (b : Bool) S', (∀ n ∈ ns, 0 ≤ n ∧ n ≤ 3) → ns.length ≤ 4 → SamePen 0 S S' → Pen S' 0 (B + 5) → Q (.tup [.lst (ns.map .int), .bl b]) S') : Wp (F_law_numbers [.loc 0] S) Q E := by
  refine wp_dfn rfl ?_
  (repeat k_upd)
  refine wp_lcE (wp_lcO (fun j acc S' => ∃ ns : List Int, acc = ns.map .int ∧ ns.length ≤ j ∧ (∀ n ∈ ns, 0 ≤ n ∧ n ≤ 3) ∧ SamePen 0 S S' ∧ Pen S' 0 (B + j)) ?_)
  (repeat k_upd)
  refine ⟨by rw [ups_len]; decide, fun _ _ _ _ => trivial, ⟨[], rfl, by decide, by simp, .refl h, h.mono (by omega)⟩, ?_, ?_⟩
  · rintro j z hz acc S' ⟨ns, rfl, rl, ro, s1, p1⟩
    obtain ⟨rfl, hj⟩ := ups_at hz
    have hj : j < 4 := hj
    refine ⟨_, rfl, ?_⟩
    (repeat k_upd)
    refine dS p1 (by omega) (by decide) (by decide) fun r S2 r0 r1 s2 p2 => ?_
    (repeat k_upd)
    refine ⟨fun _ => ⟨ns ++ [(j : Int)], by simp, by simp; omega, fun n hn => ?_, s1.trans s2, p2.mono (by omega)⟩, fun _ => ⟨ns, rfl, by omega, ro, s1.trans s2, p2.mono (by omega)⟩⟩
    rcases List.mem_append.mp hn with hn | hn
    · exact ro n hn
    · rw [List.mem_singleton.mp hn]
      omega
  · rintro acc S' ⟨ns, rfl, rl, ro, s1, p1⟩
    rw [ups_len] at rl p1
    have rl : ns.length ≤ 4 := rl
    (repeat k_upd)
    refine dS p1 (by have : (4 : Int).toNat = 4 := rfl; omega) (by decide) (by decide) fun r S2 r0 r1 s2 p2 => ?_
    (repeat k_upd)
    exact gq_len (s1.trans s2).len (q ns _ S2 ro rl (s1.trans s2) (p2.mono (by have : (4 : Int).toNat = 4 := rfl; omega)))
theorem kd_of {x : D} (h : x ∈ [D.str "quiet", .str "again", .str "take", .str "across", .str "across", .str "takeagain"]) : ∃ kd : Kd, x = .str kd.w := by
  simp only [List.mem_cons, List.not_mem_nil, or_false] at h
  rcases h with rfl | rfl | rfl | rfl | rfl | rfl
  · exact ⟨.quiet, rfl⟩
  · exact ⟨.again, rfl⟩
  · exact ⟨.take, rfl⟩
  · exact ⟨.across, rfl⟩
  · exact ⟨.across, rfl⟩
  · exact ⟨.takeagain, rfl⟩
theorem pl_of {x : D} (h : x ∈ [D.str "own", .str "other", .str "store", .str "theirs", .str "open", .str "any", .str "any"]) : ∃ p : Pl, x = .str p.s := by
  simp only [List.mem_cons, List.not_mem_nil, or_false] at h
  rcases h with rfl | rfl | rfl | rfl | rfl | rfl | rfl
  · exact ⟨.own, rfl⟩
  · exact ⟨.other, rfl⟩
  · exact ⟨.store, rfl⟩
  · exact ⟨.theirs, rfl⟩
  · exact ⟨.opn, rfl⟩
  · exact ⟨.any, rfl⟩
  · exact ⟨.any, rfl⟩
theorem w_end {S : Sto} {B : Int} {Q : D → Sto → Prop} {E : XQ} (h : Pen S 0 B) (hB : B ≤ 800000) (q : ∀ (e : En) (ns : List Int) S', Told e ns → SamePen 0 S S' → Pen S' 0 (B + 8) → Q (toldD e ns) S') : Wp (F_law_end [.loc 0] S) Q E := by
  refine wp_dfn rfl ?_
  (repeat k_upd)
  refine pS h (by omega) (Nat.le_of_ble_eq_true rfl) (Nat.le_of_ble_eq_true rfl) fun i x S1 hx s1 p1 => ?_
  obtain ⟨kd, rfl⟩ := kd_of (pick_mem hx)
  (repeat k_upd)
  refine pS p1 (by omega) (Nat.le_of_ble_eq_true rfl) (Nat.le_of_ble_eq_true rfl) fun i y S2 hy s2 p2 => ?_
  obtain ⟨p, rfl⟩ := pl_of (pick_mem hy)
  (repeat k_upd)
  refine w_numbers p2 (by omega) fun ns b S3 hn hl s3 p3 => ?_
  (repeat k_upd)
  refine wp_eqv (kd_lit kd).2.2.2.1 ?_
  (repeat k_upd)
  have mk : ∀ f : Bool, (f = true → kd = .across) → Told ⟨kd, p, ofNs ns b, f⟩ ns := fun f hf => ⟨rfl, hn, hl, hf⟩
  by_cases c : kd = .across
  · refine wp_dt c ?_
    (repeat k_upd)
    refine dS p3 (by omega) (by decide) (by decide) fun r S4 r0 r1 s4 p4 => ?_
    (repeat k_upd)
    exact gq_len (((s1.trans s2).trans s3).trans s4).len (q ⟨kd, p, ofNs ns b, decide (r = 0)⟩ ns S4 (mk _ fun _ => c) (((s1.trans s2).trans s3).trans s4) (p4.mono (by omega)))
  · refine wp_df c ?_
    (repeat k_upd)
    exact gq_len ((s1.trans s2).trans s3).len (q ⟨kd, p, ofNs ns b, false⟩ ns S3 (mk _ fun z => by cases z) ((s1.trans s2).trans s3) (p3.mono (by omega)))
end K08
-- Q9
-- Q13
set_option Elab.async false
set_option linter.all false
set_option maxRecDepth 100000
set_option maxHeartbeats 4000000
namespace K08
open PySem PV
theorem two_ok {x y : Int} (h : (0 ≤ x ∧ x ≤ 6) ∧ 0 ≤ y ∧ y ≤ 6) : ∀ n ∈ two x y, 0 ≤ n ∧ n ≤ 6 := fun n hn => by
  unfold two at hn
  split at hn
  · rw [List.mem_singleton.mp hn]; exact h.1
  · split at hn
    · simp only [List.mem_cons, List.not_mem_nil, or_false] at hn
      rcases hn with rfl | rfl
      · exact h.1
      · exact h.2
    · simp only [List.mem_cons, List.not_mem_nil, or_false] at hn
      rcases hn with rfl | rfl
      · exact h.2
      · exact h.1
theorem two_len (x y : Int) : (two x y).length ≤ 2 := by
  unfold two
  split
  · simp
  · split <;> simp
theorem takes_ok (e : En) {cs : List Nat} {a k : Int} (h : Gr cs a) (k0 : 0 ≤ k) (k1 : k < cs.length) : (e.takes a cs.length k).length ≤ 2 ∧ ∀ n ∈ e.takes a cs.length k, 0 ≤ n ∧ n ≤ 6 := by
  have l6 := h.s.l6
  have l2 := h.s.l2
  have m0 := Int.emod_nonneg (a - k) (show (cs.length : Int) ≠ 0 by omega)
  have m1 := Int.emod_lt_of_pos (a - k) (show (0 : Int) < cs.length by omega)
  unfold En.takes
  cases e.k with
  | quiet => exact ⟨Nat.le_of_ble_eq_true rfl, fun n hn => by cases hn⟩
  | again => exact ⟨Nat.le_of_ble_eq_true rfl, fun n hn => by cases hn⟩
  | take => exact ⟨Nat.le_of_ble_eq_true rfl, fun n hn => by rw [List.mem_singleton.mp hn]; omega⟩
  | takeagain => exact ⟨Nat.le_of_ble_eq_true rfl, fun n hn => by rw [List.mem_singleton.mp hn]; omega⟩
  | across => exact ⟨two_len _ _, two_ok ⟨⟨k0, by omega⟩, m0, by omega⟩⟩
theorem rep_tt {l : List Int} (hl : l.length ≤ 2) (h : ∀ n ∈ l, 0 ≤ n ∧ n ≤ 6) (S : Sto) : ∃ z, reprI reprB [.lst [.tup (l.map .int), .tup (l.map .int)]] S = .ok (.str z) S := by
  have lg : ∀ n ∈ l, n.natAbs.log2 < 1920 := fun n hn => by
    have := h n hn
    have := Nat.log2_le_self n.natAbs
    omega
  refine rep_ok (p := .list [.tuple (l.map .int), .tuple (l.map .int)]) (by simp [toP, toPs, toPs_ints]) (reprOk_of ?_ ?_ ?_) S
  · simp [neat, neatAll, neat_ints l lg]
  · simp [PyData.depth, PyData.depthAll, depth_ints]
  · simp only [bd, bdAll, bd_ints]
    omega
section
variable {cs : List Nat} {a k : Int}
theorem tk_tab (kd : Kd) : ∃ F : Fn, F = dfn 3 3 (tkB kd) ∧ List.lookup kd.c [("End", F_End_pits_taken), ("Quiet", F_End_pits_taken), ("Again", F_End_pits_taken), ("Take", F_Take_pits_taken), ("Across", F_Across_pits_taken), ("TakeAgain", F_Take_pits_taken)] = some F := by
  cases kd <;> exact ⟨_, rfl, rfl⟩
theorem tk_tabK (kd : Kd) : List.lookup kd.c [("End", (kwF [0, 2, 1] [] (dfn 3 3 B_End_pits_taken))), ("Quiet", (kwF [0, 2, 1] [] (dfn 3 3 B_End_pits_taken))), ("Again", (kwF [0, 2, 1] [] (dfn 3 3 B_End_pits_taken))), ("Take", (kwF [0, 2, 1] [] (dfn 3 3 B_Take_pits_taken))), ("Across", (kwF [0, 2, 1] [] (dfn 3 3 B_Across_pits_taken))), ("TakeAgain", (kwF [0, 2, 1] [] (dfn 3 3 B_Take_pits_taken)))] = some (kwF [0, 2, 1] [] (dfn 3 3 (tkB kd))) := by
  cases kd <;> rfl
end
theorem e_law {cs : List Int} (h : cs.length ≤ 63) : ∃ S', F_law [.src (cs.map .int)] [] = .ok (.bl true) S' := by
  refine law_of (wp_dfn rfl ?_)
  (repeat k_upd)
  refine wp_eq (pen_ok h) ?_
  (repeat k_upd)
  refine ws_for (fun j ρ S' => Pen S' 0 (40 * (j : Nat)) ∧ j ≤ 5 ∧ ∃ x2 x3 x4 x5 x6 x7 x8 x9, ρ = [some (.src (cs.map .int)), some (.loc 0), x2, x3, x4, x5, x6, x7, x8, x9]) (wp_eq (a := (ups 0 5, none)) rfl ?_)
  refine ⟨fun _ _ _ _ => trivial, ⟨⟨cs, 0, 0, rfl, h, by omega, by omega⟩, by omega, _, _, _, _, _, _, _, _, rfl⟩, ?_, ?_⟩
  · rintro j z hz ρ S0 ⟨hp, hj, x2, x3, x4, x5, x6, x7, x8, x9, rfl⟩
    obtain ⟨rfl, hj2⟩ := ups_at (n := 5) hz
    refine ⟨_, rfl, ?_⟩
    (repeat k_upd)
    refine w_signs hp (by omega) fun gs S1 hg s1 p1 => ?_
    have l2 := hg.l2
    have l6 := hg.l6
    (repeat k_upd)
    refine w_end p1 (by omega) fun e ns S2 ht s2 p2 => ?_
    (repeat k_upd)
    refine wp_lens (by rw [mkS_len]; omega) ?_
    rw [mkS_len]
    (repeat k_upd)
    refine dS p2 (by omega) (by omega) (by omega) fun a S3 a0 a1 s3 p3 => ?_
    have hr : Gr gs a := ⟨hg, a0, a1⟩
    (repeat k_upd)
    refine wp_eq (mk_ring hr) ?_
    (repeat k_upd)
    refine wp_eq (e_made ht S3) ?_
    (repeat k_upd)
    refine wp_eq (e_kind e ht) ?_
    (repeat k_upd)
    refine ws_for (fun i ρ S' => S' = S3 ∧ ∃ x8 x9, ρ = [some (.src (cs.map .int)), some (.loc 0), some (.int (0 + (j : Int))), some (.str (mkS gs)), some (toldD e ns), some (.int a), some (ringD gs a), some e.d, x8, x9]) ?_
    (repeat k_upd)
    refine wp_lens (by rw [mkS_len]; omega) ?_
    rw [mkS_len]
    (repeat k_upd)
    refine ⟨fun _ _ _ _ => trivial, ⟨_, _, rfl⟩, ?_, ?_⟩
    · rintro i y hy ρ S' ⟨rfl, x8, x9, rfl⟩
      obtain ⟨rfl, hi⟩ := ups_at hy
      have k0 : (0 : Int) ≤ 0 + (i : Int) := by omega
      have k1 : (0 : Int) + (i : Int) < gs.length := by omega
      obtain ⟨tl, tn⟩ := takes_ok e hr k0 k1
      obtain ⟨zz, hzz⟩ := rep_tt tl tn S'
      refine ⟨_, rfl, ?_⟩
      (repeat k_upd)
      refine wp_eq (e_acts e ht hr k0 k1) ?_
      (repeat k_upd)
      refine wp_lens (by rw [mkS_len]; omega) ?_
      rw [mkS_len]
      (repeat k_upd)
      refine wp_eq (e_taken e ns hr k0 k1) ?_
      (repeat k_upd)
      obtain ⟨F, hF, lF⟩ := tk_tab e.k
      refine wp_mtQ (C := e.k.c) (F := F) (fs := endF e.p e.t e.f) rfl lF rfl ?_
      (repeat k_upd)
      rw [hF]
      refine wp_eq (e_tk e hr k0 k1) ?_
      (repeat k_upd)
      refine wp_mtKNQ (C := e.k.c) (fs := endF e.p e.t e.f) rfl (tk_tabK e.k) rfl ?_
      (repeat k_upd)
      refine wp_eq (e_tk e hr k0 k1) ?_
      (repeat k_upd)
      refine wp_eq hzz ?_
      (repeat k_upd)
      refine wp_eq hzz ?_
      refine wp_eqv (eqD_str _ _) ?_
      (repeat k_upd)
      refine ws_nf (by trivial) ?_
      (repeat k_upd)
      exact ⟨_, _, rfl⟩
    · rintro ρ S' ⟨rfl, x8, x9, rfl⟩
      (repeat k_upd)
      exact ⟨p3.mono (by omega), by omega, _, _, _, _, _, _, _, _, rfl⟩
  · rintro ρ S5 ⟨hp, hj, x2, x3, x4, x5, x6, x7, x8, x9, rfl⟩
    (repeat k_upd)
    refine wp_eq (mk_one (n := 0) (by decide) _) ?_
    (repeat k_upd)
    refine wp_eq (mk_acr0 .any _ _) ?_
    (repeat k_upd)
    refine wp_eq (a := .bl true) rfl ?_
    (repeat k_upd)
    refine wp_eq (mk_one (n := 0) (by decide) _) ?_
    (repeat k_upd)
    refine wp_eq (mk_acrK .any _ true _) ?_
    (repeat k_upd)
    refine wp_eq (a := .bl true) rfl ?_
    (repeat k_upd)
    exact gq_nil rfl rfl
end K08
set_option Elab.async false
set_option linter.all false
set_option maxRecDepth 100000
set_option maxHeartbeats 4000000
namespace K08H
open PySem PySem.W PySem.Calls PyProof.Rows HandSHeadRun HX
noncomputable section
def body : List Stmt := PySem.Challenge.pw_lapseeds_k08_ends_fit_and_take.main.body
def d0 : Stmt := stA body 0
def d1 : Stmt := stA (fC (stA body 3)) 0
def d2 : Stmt := stA (fC (stA body 4)) 0
def d3 : Stmt := stA (fC (stA body 5)) 0
def d4 : Stmt := stA (fC (stA body 6)) 0
def d5 : Stmt := stA (fC (stA body 7)) 0
def d6 : Stmt := stA (fC (stA body 8)) 0
def d7 : Stmt := stA (fC (stA body 9)) 0
def d8 : Stmt := stA body 13
def d9 : Stmt := stA body 14
def d10 : Stmt := stA body 15
def d11 : Stmt := stA body 18
def d12 : Stmt := stA (fC (stA body 19)) 1
def d13 : Stmt := stA (fC (stA body 19)) 2
def d14 : Stmt := stA (fC (stA body 19)) 3
def d15 : Stmt := stA (fC (stA body 19)) 4
def d16 : Stmt := stA (fC (stA body 19)) 5
def d17 : Stmt := stA (fC (stA body 19)) 6
def d18 : Stmt := stA (fC (stA body 19)) 7
def d19 : Stmt := stA (fC (stA body 19)) 8
def d20 : Stmt := stA (fC (stA body 19)) 9
def d21 : Stmt := stA (fC (stA body 19)) 10
def d22 : Stmt := stA (fC (stA body 19)) 11
def d23 : Stmt := stA (fC (stA body 19)) 12
def d24 : Stmt := stA (fC (stA body 19)) 13
def d25 : Stmt := stA (fC (stA body 19)) 14
def d26 : Stmt := stA (fC (stA body 19)) 15
def d27 : Stmt := stA (fC (stA body 19)) 16
def d28 : Stmt := stA (fC (stA body 19)) 17
def d29 : Stmt := stA (fC (stA body 19)) 18
def d30 : Stmt := stA (fC (stA body 19)) 19
def d31 : Stmt := stA (fC (stA body 19)) 20
def d32 : Stmt := stA (fC (stA body 19)) 21
def d33 : Stmt := stA body 20
def d34 : Stmt := stA body 21
def d35 : Stmt := stA body 23
def d36 : Stmt := stA body 31
def d37 : Stmt := stA body 32
def d38 : Stmt := stA (fC (stA body 33)) 1
def d39 : Stmt := stA (fC (stA body 33)) 2
def d40 : Stmt := stA (fC (stA body 33)) 3
def d41 : Stmt := stA (fC (stA body 33)) 4
def d42 : Stmt := stA (fC (stA body 33)) 5
def d43 : Stmt := stA (fC (stA body 33)) 6
def d44 : Stmt := stA (fC (stA body 33)) 7
def d45 : Stmt := stA (fC (stA body 33)) 8
def d46 : Stmt := stA (fC (stA body 33)) 9
def d47 : Stmt := stA (fC (stA body 33)) 10
def d48 : Stmt := stA (fC (stA body 33)) 11
def d49 : Stmt := stA (fC (stA body 33)) 12
def d50 : Stmt := stA (fC (stA body 37)) 3
def d51 : Stmt := stA (fC (stA body 37)) 4
def d52 : Stmt := stA (fC (stA body 37)) 5
def d53 : Stmt := stA (fC (stA body 37)) 6
def d54 : Stmt := stA (fC (stA body 37)) 7
def d55 : Stmt := stA (fC (stA body 37)) 8
def d56 : Stmt := stA (fC (stA body 37)) 9
def d57 : Stmt := stA (fC (stA body 37)) 10
def d58 : Stmt := stA (fC (stA body 40)) 2
def d59 : Stmt := stA (fC (stA body 41)) 1
def d60 : Stmt := stA (fC (stA body 41)) 2
def d61 : Stmt := stA body 43
def d62 : Stmt := stA body 44
def d63 : Stmt := stA body 46
def d64 : Stmt := stA body 47
def d65 : Stmt := stA body 48
def d66 : Stmt := stA body 49
def d67 : Stmt := stA body 50
def d68 : Stmt := stA body 51
def d69 : Stmt := stA body 52
def d70 : Stmt := stA body 53
def d71 : Stmt := stA body 54
def d72 : Stmt := stA body 55
def d73 : Stmt := stA body 56
def d74 : Stmt := stA body 57
def d75 : Stmt := stA body 58
def d76 : Stmt := stA body 59
def o11 : Obj := tu []
def o12 : Obj := fi []
def o13 : Obj := fo "code" [(s "<module>" 182), (s "<module>" 183), (s "/claim/cut.py" 184), (i 1), (i 0), (i 0), (i 0), (i 0), (r 11), (Value.bool false), (i 181), (r 12), Value.none, Value.none, Value.none, Value.none, (i 185), (i 1), (s "/claim/cut.py" 186)]
def o14 : Obj := (Obj.mk (ty "frame") none Data.plain #[(some (r 13)), (some (r 3)), (some (r 3)), none, (some (s "__main__" 164)), none, (some (r 0))])
def T0 (P : Params) : BT := nd (boot_o_0 P) (nd (boot_o_1 P) (nd (boot_o_3 P) (lf (boot_o_7 P)) (lf o11)) (nd (boot_o_5 P) (lf (boot_o_9 P)) (lf o13))) (nd (boot_o_2 P) (nd (boot_o_4 P) (lf (boot_o_8 P)) (lf o12)) (nd (boot_o_6 P) (lf (boot_o_10 P)) (lf o14)))
def S0 (w : World) (os : OsState) : SharedT := ⟨T0 w.params, 15, (boot_heap w.params).life, #[], boot_drawn, 187, os⟩
def o3_1 (P : Params) : Obj := di [en P "__name__" 165 (s "lapseeds.helds" 433), en P "__doc__" 166 Value.none, en P "__package__" 167 Value.none, en P "__loader__" 168 (bi "__main__.__loader__#opaque"), en P "__spec__" 169 Value.none, en P "__annotations__" 170 (r 6), en P "__builtins__" 171 (r 4), en P "__file__" 173 (s "/claim/cut.py" 172), en P "__cached__" 174 Value.none, en P "_wall" 193 (r 21), en P "LapError" 213 (r 31), en P "BadHeld" 238 (r 51), en P "BadRing" 263 (r 70), en P "BadPlayer" 288 (r 89), en P "BadPit" 313 (r 108), en P "BadEnd" 338 (r 127), en P "BadNumber" 363 (r 146), en P "BadText" 390 (r 165), en P "Unlike" 406 (r 177), en P "FIGURES" 410 (s "0123456789" 409), en P "is_whole" 417 (r 186), en P "is_between" 426 (r 193), en P "number_in" 432 (r 198), en P "MOST_NUMBER" 436 (Value.int 3 435), en P "bound_of" 445 (r 205)] 25
def o12_1 : Obj := fi [(i 1), (i 0), (r 20), (i 5), (i 0), (r 27), (i 7), (i 0), (r 40), (i 11), (i 0), (r 59), (i 15), (i 0), (r 78), (i 19), (i 0), (r 97), (i 23), (i 0), (r 116), (i 27), (i 0), (r 135), (i 31), (i 0), (r 154), (i 36), (i 0), (r 173), (i 40), (i 0), (r 185), (i 42), (i 0), (r 192), (i 44), (i 0), (r 197), (i 50), (i 0), (r 204)]
def o15 : Obj := tu []
def o16 : Obj := fi []
def o17 : Obj := tu [(s "k" 190)]
def o18 : Obj := tu []
def o19 : Obj := fu Value.none "_wall" "_wall" d0 0 [] Value.none Value.none Value.none Value.none none Value.none Value.none 0
def o20 : Obj := fo "code" [(s "_wall" 187), (s "_wall" 188), (s "/claim/cut.py" 189), (i 1), (i 1), (i 0), (i 0), (i 3), (r 15), (Value.bool true), (i 181), (r 16), Value.none, (r 17), (r 18), (r 19), (i 191), (i 1), (s "/claim/cut.py" 192)]
def o21 : Obj := fu (ty "function") "_wall" "_wall" d0 3 [] Value.none Value.none Value.none (s "__main__" 164) none (r 20) Value.none 0
def o22 : Obj := tu [(ty "ValueError")]
def o23 : Obj := fo "builtin_function_or_method" [(bi "type.__prepare__"), (ty "type")]
def o24 (P : Params) : Obj := di [en P "__module__" 203 (s "lapseeds.errors" 194), en P "__qualname__" 205 (s "LapError" 204), en P "__firstlineno__" 207 (Value.int 5 206), en P "__static_attributes__" 208 (r 29)] 4
def o25 : Obj := tu []
def o26 : Obj := fi []
def o27 : Obj := fo "code" [(s "LapError" 198), (s "LapError" 199), (s "/claim/cut.py" 200), (i 5), (i 0), (i 0), (i 0), (i 0), (r 25), (Value.bool false), (i 181), (r 26), Value.none, Value.none, Value.none, Value.none, (i 201), (i 5), (s "/claim/cut.py" 202)]
def o28 : Obj := (Obj.mk (ty "frame") none Data.plain #[(some (r 27)), (some (r 3)), (some (r 24)), none, (some (s "lapseeds.errors" 194)), none, (some (r 0))])
def o29 : Obj := tu []
def o30 (P : Params) : Obj := di [en P "__module__" 203 (s "lapseeds.errors" 194), en P "__firstlineno__" 207 (Value.int 5 206), en P "__static_attributes__" 208 (r 29), en P "__weakref__" 210 (r 32), en P "__doc__" 211 Value.none] 3
def o31 : Obj := (Obj.mk (ty "type") none (Data.cls (ClassData.mk "LapError" [(ty "ValueError")] [(r 31), (ty "ValueError"), (ty "Exception"), (ty "BaseException"), (ty "object")] 30 "LapError" true [] [(r 51), (r 70), (r 89), (r 108), (r 127), (r 146), (r 165), (r 177)] false none false)) #[(some (r 22)), none, (some (s "LapError" 196)), (some (s "LapError" 204)), (some (bi "ValueError.__new__")), (some (Value.bool true))])
def o32 : Obj := fo "getset_descriptor" [(s "__weakref__" 209), (r 31), (bi "ExceptionGroup.__weakref__"), Value.none]
def o33 : Obj := fo "super" [(r 31), (r 31), (r 31)]
def o34 : Obj := fo "builtin_function_or_method" [(bi "object.__init_subclass__"), (r 31)]
def o35 : Obj := tu [(r 31)]
def o36 : Obj := fo "builtin_function_or_method" [(bi "type.__prepare__"), (ty "type")]
def o37 (P : Params) : Obj := di [en P "__module__" 221 (s "lapseeds.errors" 194), en P "__qualname__" 223 (s "BadHeld" 222), en P "__firstlineno__" 225 (Value.int 7 224), en P "__init__" 233 (r 48), en P "__static_attributes__" 235 (r 49)] 5
def o38 : Obj := tu []
def o39 : Obj := fi [(i 9), (i 4), (r 47)]
def o40 : Obj := fo "code" [(s "BadHeld" 216), (s "BadHeld" 217), (s "/claim/cut.py" 218), (i 7), (i 0), (i 0), (i 0), (i 0), (r 38), (Value.bool false), (i 181), (r 39), Value.none, Value.none, Value.none, Value.none, (i 219), (i 7), (s "/claim/cut.py" 220)]
def o41 : Obj := (Obj.mk (ty "frame") none Data.plain #[(some (r 40)), (some (r 3)), (some (r 37)), none, (some (s "lapseeds.errors" 194)), none, (some (r 0))])
def o42 : Obj := tu []
def o43 : Obj := fi []
def o44 : Obj := tu [(s "self" 229), (s "value" 230)]
def o45 : Obj := tu []
def o46 : Obj := fu Value.none "__init__" "BadHeld.__init__" d1 0 [] Value.none Value.none Value.none Value.none none Value.none Value.none 0
def o47 : Obj := fo "code" [(s "__init__" 226), (s "BadHeld.__init__" 227), (s "/claim/cut.py" 228), (i 9), (i 2), (i 0), (i 0), (i 3), (r 42), (Value.bool true), (i 181), (r 43), Value.none, (r 44), (r 45), (r 46), (i 231), (i 9), (s "/claim/cut.py" 232)]
def o48 : Obj := fu (ty "function") "__init__" "BadHeld.__init__" d1 3 [] Value.none Value.none Value.none (s "lapseeds.errors" 194) none (r 47) Value.none 0
def o49 : Obj := tu [(s "value" 234)]
def o50 (P : Params) : Obj := di [en P "__module__" 221 (s "lapseeds.errors" 194), en P "__firstlineno__" 225 (Value.int 7 224), en P "__init__" 233 (r 48), en P "__static_attributes__" 235 (r 49), en P "__doc__" 236 Value.none] 2
def o51 : Obj := (Obj.mk (ty "type") none (Data.cls (ClassData.mk "BadHeld" [(r 31)] [(r 51), (r 31), (ty "ValueError"), (ty "Exception"), (ty "BaseException"), (ty "object")] 50 "BadHeld" true [] [] false none false)) #[(some (r 35)), none, (some (s "BadHeld" 214)), (some (s "BadHeld" 222)), (some (bi "ValueError.__new__")), (some (Value.bool true))])
def o52 : Obj := fo "super" [(r 51), (r 51), (r 51)]
def o53 : Obj := fo "builtin_function_or_method" [(bi "object.__init_subclass__"), (r 51)]
def o54 : Obj := tu [(r 31)]
def o55 : Obj := fo "builtin_function_or_method" [(bi "type.__prepare__"), (ty "type")]
def o56 (P : Params) : Obj := di [en P "__module__" 246 (s "lapseeds.errors" 194), en P "__qualname__" 248 (s "BadRing" 247), en P "__firstlineno__" 250 (Value.int 11 249), en P "__init__" 258 (r 67), en P "__static_attributes__" 260 (r 68)] 5
def o57 : Obj := tu []
def o58 : Obj := fi [(i 13), (i 4), (r 66)]
def o59 : Obj := fo "code" [(s "BadRing" 241), (s "BadRing" 242), (s "/claim/cut.py" 243), (i 11), (i 0), (i 0), (i 0), (i 0), (r 57), (Value.bool false), (i 181), (r 58), Value.none, Value.none, Value.none, Value.none, (i 244), (i 11), (s "/claim/cut.py" 245)]
def o60 : Obj := (Obj.mk (ty "frame") none Data.plain #[(some (r 59)), (some (r 3)), (some (r 56)), none, (some (s "lapseeds.errors" 194)), none, (some (r 0))])
def o61 : Obj := tu []
def o62 : Obj := fi []
def o63 : Obj := tu [(s "self" 254), (s "part" 255)]
def o64 : Obj := tu []
def o65 : Obj := fu Value.none "__init__" "BadRing.__init__" d2 0 [] Value.none Value.none Value.none Value.none none Value.none Value.none 0
def o66 : Obj := fo "code" [(s "__init__" 251), (s "BadRing.__init__" 252), (s "/claim/cut.py" 253), (i 13), (i 2), (i 0), (i 0), (i 3), (r 61), (Value.bool true), (i 181), (r 62), Value.none, (r 63), (r 64), (r 65), (i 256), (i 13), (s "/claim/cut.py" 257)]
def o67 : Obj := fu (ty "function") "__init__" "BadRing.__init__" d2 3 [] Value.none Value.none Value.none (s "lapseeds.errors" 194) none (r 66) Value.none 0
def o68 : Obj := tu [(s "part" 259)]
def o69 (P : Params) : Obj := di [en P "__module__" 246 (s "lapseeds.errors" 194), en P "__firstlineno__" 250 (Value.int 11 249), en P "__init__" 258 (r 67), en P "__static_attributes__" 260 (r 68), en P "__doc__" 261 Value.none] 2
def o70 : Obj := (Obj.mk (ty "type") none (Data.cls (ClassData.mk "BadRing" [(r 31)] [(r 70), (r 31), (ty "ValueError"), (ty "Exception"), (ty "BaseException"), (ty "object")] 69 "BadRing" true [] [] false none false)) #[(some (r 54)), none, (some (s "BadRing" 239)), (some (s "BadRing" 247)), (some (bi "ValueError.__new__")), (some (Value.bool true))])
def o71 : Obj := fo "super" [(r 70), (r 70), (r 70)]
def o72 : Obj := fo "builtin_function_or_method" [(bi "object.__init_subclass__"), (r 70)]
def o73 : Obj := tu [(r 31)]
def o74 : Obj := fo "builtin_function_or_method" [(bi "type.__prepare__"), (ty "type")]
def o75 (P : Params) : Obj := di [en P "__module__" 271 (s "lapseeds.errors" 194), en P "__qualname__" 273 (s "BadPlayer" 272), en P "__firstlineno__" 275 (Value.int 15 274), en P "__init__" 283 (r 86), en P "__static_attributes__" 285 (r 87)] 5
def o76 : Obj := tu []
def o77 : Obj := fi [(i 17), (i 4), (r 85)]
def o78 : Obj := fo "code" [(s "BadPlayer" 266), (s "BadPlayer" 267), (s "/claim/cut.py" 268), (i 15), (i 0), (i 0), (i 0), (i 0), (r 76), (Value.bool false), (i 181), (r 77), Value.none, Value.none, Value.none, Value.none, (i 269), (i 15), (s "/claim/cut.py" 270)]
def o79 : Obj := (Obj.mk (ty "frame") none Data.plain #[(some (r 78)), (some (r 3)), (some (r 75)), none, (some (s "lapseeds.errors" 194)), none, (some (r 0))])
def o80 : Obj := tu []
def o81 : Obj := fi []
def o82 : Obj := tu [(s "self" 279), (s "value" 280)]
def o83 : Obj := tu []
def o84 : Obj := fu Value.none "__init__" "BadPlayer.__init__" d3 0 [] Value.none Value.none Value.none Value.none none Value.none Value.none 0
def o85 : Obj := fo "code" [(s "__init__" 276), (s "BadPlayer.__init__" 277), (s "/claim/cut.py" 278), (i 17), (i 2), (i 0), (i 0), (i 3), (r 80), (Value.bool true), (i 181), (r 81), Value.none, (r 82), (r 83), (r 84), (i 281), (i 17), (s "/claim/cut.py" 282)]
def o86 : Obj := fu (ty "function") "__init__" "BadPlayer.__init__" d3 3 [] Value.none Value.none Value.none (s "lapseeds.errors" 194) none (r 85) Value.none 0
def o87 : Obj := tu [(s "value" 284)]
def o88 (P : Params) : Obj := di [en P "__module__" 271 (s "lapseeds.errors" 194), en P "__firstlineno__" 275 (Value.int 15 274), en P "__init__" 283 (r 86), en P "__static_attributes__" 285 (r 87), en P "__doc__" 286 Value.none] 2
def o89 : Obj := (Obj.mk (ty "type") none (Data.cls (ClassData.mk "BadPlayer" [(r 31)] [(r 89), (r 31), (ty "ValueError"), (ty "Exception"), (ty "BaseException"), (ty "object")] 88 "BadPlayer" true [] [] false none false)) #[(some (r 73)), none, (some (s "BadPlayer" 264)), (some (s "BadPlayer" 272)), (some (bi "ValueError.__new__")), (some (Value.bool true))])
def o90 : Obj := fo "super" [(r 89), (r 89), (r 89)]
def o91 : Obj := fo "builtin_function_or_method" [(bi "object.__init_subclass__"), (r 89)]
def o92 : Obj := tu [(r 31)]
def o93 : Obj := fo "builtin_function_or_method" [(bi "type.__prepare__"), (ty "type")]
def o94 (P : Params) : Obj := di [en P "__module__" 296 (s "lapseeds.errors" 194), en P "__qualname__" 298 (s "BadPit" 297), en P "__firstlineno__" 300 (Value.int 19 299), en P "__init__" 308 (r 105), en P "__static_attributes__" 310 (r 106)] 5
def o95 : Obj := tu []
def o96 : Obj := fi [(i 21), (i 4), (r 104)]
def o97 : Obj := fo "code" [(s "BadPit" 291), (s "BadPit" 292), (s "/claim/cut.py" 293), (i 19), (i 0), (i 0), (i 0), (i 0), (r 95), (Value.bool false), (i 181), (r 96), Value.none, Value.none, Value.none, Value.none, (i 294), (i 19), (s "/claim/cut.py" 295)]
def o98 : Obj := (Obj.mk (ty "frame") none Data.plain #[(some (r 97)), (some (r 3)), (some (r 94)), none, (some (s "lapseeds.errors" 194)), none, (some (r 0))])
def o99 : Obj := tu []
def o100 : Obj := fi []
def o101 : Obj := tu [(s "self" 304), (s "value" 305)]
def o102 : Obj := tu []
def o103 : Obj := fu Value.none "__init__" "BadPit.__init__" d4 0 [] Value.none Value.none Value.none Value.none none Value.none Value.none 0
def o104 : Obj := fo "code" [(s "__init__" 301), (s "BadPit.__init__" 302), (s "/claim/cut.py" 303), (i 21), (i 2), (i 0), (i 0), (i 3), (r 99), (Value.bool true), (i 181), (r 100), Value.none, (r 101), (r 102), (r 103), (i 306), (i 21), (s "/claim/cut.py" 307)]
def o105 : Obj := fu (ty "function") "__init__" "BadPit.__init__" d4 3 [] Value.none Value.none Value.none (s "lapseeds.errors" 194) none (r 104) Value.none 0
def o106 : Obj := tu [(s "value" 309)]
def o107 (P : Params) : Obj := di [en P "__module__" 296 (s "lapseeds.errors" 194), en P "__firstlineno__" 300 (Value.int 19 299), en P "__init__" 308 (r 105), en P "__static_attributes__" 310 (r 106), en P "__doc__" 311 Value.none] 2
def o108 : Obj := (Obj.mk (ty "type") none (Data.cls (ClassData.mk "BadPit" [(r 31)] [(r 108), (r 31), (ty "ValueError"), (ty "Exception"), (ty "BaseException"), (ty "object")] 107 "BadPit" true [] [] false none false)) #[(some (r 92)), none, (some (s "BadPit" 289)), (some (s "BadPit" 297)), (some (bi "ValueError.__new__")), (some (Value.bool true))])
def o109 : Obj := fo "super" [(r 108), (r 108), (r 108)]
def o110 : Obj := fo "builtin_function_or_method" [(bi "object.__init_subclass__"), (r 108)]
def o111 : Obj := tu [(r 31)]
def o112 : Obj := fo "builtin_function_or_method" [(bi "type.__prepare__"), (ty "type")]
def o113 (P : Params) : Obj := di [en P "__module__" 321 (s "lapseeds.errors" 194), en P "__qualname__" 323 (s "BadEnd" 322), en P "__firstlineno__" 325 (Value.int 23 324), en P "__init__" 333 (r 124), en P "__static_attributes__" 335 (r 125)] 5
def o114 : Obj := tu []
def o115 : Obj := fi [(i 25), (i 4), (r 123)]
def o116 : Obj := fo "code" [(s "BadEnd" 316), (s "BadEnd" 317), (s "/claim/cut.py" 318), (i 23), (i 0), (i 0), (i 0), (i 0), (r 114), (Value.bool false), (i 181), (r 115), Value.none, Value.none, Value.none, Value.none, (i 319), (i 23), (s "/claim/cut.py" 320)]
def o117 : Obj := (Obj.mk (ty "frame") none Data.plain #[(some (r 116)), (some (r 3)), (some (r 113)), none, (some (s "lapseeds.errors" 194)), none, (some (r 0))])
def o118 : Obj := tu []
def o119 : Obj := fi []
def o120 : Obj := tu [(s "self" 329), (s "part" 330)]
def o121 : Obj := tu []
def o122 : Obj := fu Value.none "__init__" "BadEnd.__init__" d5 0 [] Value.none Value.none Value.none Value.none none Value.none Value.none 0
def o123 : Obj := fo "code" [(s "__init__" 326), (s "BadEnd.__init__" 327), (s "/claim/cut.py" 328), (i 25), (i 2), (i 0), (i 0), (i 3), (r 118), (Value.bool true), (i 181), (r 119), Value.none, (r 120), (r 121), (r 122), (i 331), (i 25), (s "/claim/cut.py" 332)]
def o124 : Obj := fu (ty "function") "__init__" "BadEnd.__init__" d5 3 [] Value.none Value.none Value.none (s "lapseeds.errors" 194) none (r 123) Value.none 0
def o125 : Obj := tu [(s "part" 334)]
def o126 (P : Params) : Obj := di [en P "__module__" 321 (s "lapseeds.errors" 194), en P "__firstlineno__" 325 (Value.int 23 324), en P "__init__" 333 (r 124), en P "__static_attributes__" 335 (r 125), en P "__doc__" 336 Value.none] 2
def o127 : Obj := (Obj.mk (ty "type") none (Data.cls (ClassData.mk "BadEnd" [(r 31)] [(r 127), (r 31), (ty "ValueError"), (ty "Exception"), (ty "BaseException"), (ty "object")] 126 "BadEnd" true [] [] false none false)) #[(some (r 111)), none, (some (s "BadEnd" 314)), (some (s "BadEnd" 322)), (some (bi "ValueError.__new__")), (some (Value.bool true))])
def o128 : Obj := fo "super" [(r 127), (r 127), (r 127)]
def o129 : Obj := fo "builtin_function_or_method" [(bi "object.__init_subclass__"), (r 127)]
def o130 : Obj := tu [(r 31)]
def o131 : Obj := fo "builtin_function_or_method" [(bi "type.__prepare__"), (ty "type")]
def o132 (P : Params) : Obj := di [en P "__module__" 346 (s "lapseeds.errors" 194), en P "__qualname__" 348 (s "BadNumber" 347), en P "__firstlineno__" 350 (Value.int 27 349), en P "__init__" 358 (r 143), en P "__static_attributes__" 360 (r 144)] 5
def o133 : Obj := tu []
def o134 : Obj := fi [(i 29), (i 4), (r 142)]
def o135 : Obj := fo "code" [(s "BadNumber" 341), (s "BadNumber" 342), (s "/claim/cut.py" 343), (i 27), (i 0), (i 0), (i 0), (i 0), (r 133), (Value.bool false), (i 181), (r 134), Value.none, Value.none, Value.none, Value.none, (i 344), (i 27), (s "/claim/cut.py" 345)]
def o136 : Obj := (Obj.mk (ty "frame") none Data.plain #[(some (r 135)), (some (r 3)), (some (r 132)), none, (some (s "lapseeds.errors" 194)), none, (some (r 0))])
def o137 : Obj := tu []
def o138 : Obj := fi []
def o139 : Obj := tu [(s "self" 354), (s "value" 355)]
def o140 : Obj := tu []
def o141 : Obj := fu Value.none "__init__" "BadNumber.__init__" d6 0 [] Value.none Value.none Value.none Value.none none Value.none Value.none 0
def o142 : Obj := fo "code" [(s "__init__" 351), (s "BadNumber.__init__" 352), (s "/claim/cut.py" 353), (i 29), (i 2), (i 0), (i 0), (i 3), (r 137), (Value.bool true), (i 181), (r 138), Value.none, (r 139), (r 140), (r 141), (i 356), (i 29), (s "/claim/cut.py" 357)]
def o143 : Obj := fu (ty "function") "__init__" "BadNumber.__init__" d6 3 [] Value.none Value.none Value.none (s "lapseeds.errors" 194) none (r 142) Value.none 0
def o144 : Obj := tu [(s "value" 359)]
def o145 (P : Params) : Obj := di [en P "__module__" 346 (s "lapseeds.errors" 194), en P "__firstlineno__" 350 (Value.int 27 349), en P "__init__" 358 (r 143), en P "__static_attributes__" 360 (r 144), en P "__doc__" 361 Value.none] 2
def o146 : Obj := (Obj.mk (ty "type") none (Data.cls (ClassData.mk "BadNumber" [(r 31)] [(r 146), (r 31), (ty "ValueError"), (ty "Exception"), (ty "BaseException"), (ty "object")] 145 "BadNumber" true [] [] false none false)) #[(some (r 130)), none, (some (s "BadNumber" 339)), (some (s "BadNumber" 347)), (some (bi "ValueError.__new__")), (some (Value.bool true))])
def o147 : Obj := fo "super" [(r 146), (r 146), (r 146)]
def o148 : Obj := fo "builtin_function_or_method" [(bi "object.__init_subclass__"), (r 146)]
def o149 : Obj := tu [(r 31)]
def o150 : Obj := fo "builtin_function_or_method" [(bi "type.__prepare__"), (ty "type")]
def o151 (P : Params) : Obj := di [en P "__module__" 371 (s "lapseeds.errors" 194), en P "__qualname__" 373 (s "BadText" 372), en P "__firstlineno__" 375 (Value.int 31 374), en P "__init__" 384 (r 162), en P "__static_attributes__" 387 (r 163)] 5
def o152 : Obj := tu []
def o153 : Obj := fi [(i 33), (i 4), (r 161)]
def o154 : Obj := fo "code" [(s "BadText" 366), (s "BadText" 367), (s "/claim/cut.py" 368), (i 31), (i 0), (i 0), (i 0), (i 0), (r 152), (Value.bool false), (i 181), (r 153), Value.none, Value.none, Value.none, Value.none, (i 369), (i 31), (s "/claim/cut.py" 370)]
def o155 : Obj := (Obj.mk (ty "frame") none Data.plain #[(some (r 154)), (some (r 3)), (some (r 151)), none, (some (s "lapseeds.errors" 194)), none, (some (r 0))])
def o156 : Obj := tu []
def o157 : Obj := fi []
def o158 : Obj := tu [(s "self" 379), (s "line" 380), (s "word" 381)]
def o159 : Obj := tu []
def o160 : Obj := fu Value.none "__init__" "BadText.__init__" d7 0 [] Value.none Value.none Value.none Value.none none Value.none Value.none 0
def o161 : Obj := fo "code" [(s "__init__" 376), (s "BadText.__init__" 377), (s "/claim/cut.py" 378), (i 33), (i 3), (i 0), (i 0), (i 3), (r 156), (Value.bool true), (i 181), (r 157), Value.none, (r 158), (r 159), (r 160), (i 382), (i 33), (s "/claim/cut.py" 383)]
def o162 : Obj := fu (ty "function") "__init__" "BadText.__init__" d7 3 [] Value.none Value.none Value.none (s "lapseeds.errors" 194) none (r 161) Value.none 0
def o163 : Obj := tu [(s "line" 385), (s "word" 386)]
def o164 (P : Params) : Obj := di [en P "__module__" 371 (s "lapseeds.errors" 194), en P "__firstlineno__" 375 (Value.int 31 374), en P "__init__" 384 (r 162), en P "__static_attributes__" 387 (r 163), en P "__doc__" 388 Value.none] 2
def o165 : Obj := (Obj.mk (ty "type") none (Data.cls (ClassData.mk "BadText" [(r 31)] [(r 165), (r 31), (ty "ValueError"), (ty "Exception"), (ty "BaseException"), (ty "object")] 164 "BadText" true [] [] false none false)) #[(some (r 149)), none, (some (s "BadText" 364)), (some (s "BadText" 372)), (some (bi "ValueError.__new__")), (some (Value.bool true))])
def o166 : Obj := fo "super" [(r 165), (r 165), (r 165)]
def o167 : Obj := fo "builtin_function_or_method" [(bi "object.__init_subclass__"), (r 165)]
def o168 : Obj := tu [(r 31)]
def o169 : Obj := fo "builtin_function_or_method" [(bi "type.__prepare__"), (ty "type")]
def o170 (P : Params) : Obj := di [en P "__module__" 398 (s "lapseeds.errors" 194), en P "__qualname__" 400 (s "Unlike" 399), en P "__firstlineno__" 402 (Value.int 36 401), en P "__static_attributes__" 403 (r 175)] 4
def o171 : Obj := tu []
def o172 : Obj := fi []
def o173 : Obj := fo "code" [(s "Unlike" 393), (s "Unlike" 394), (s "/claim/cut.py" 395), (i 36), (i 0), (i 0), (i 0), (i 0), (r 171), (Value.bool false), (i 181), (r 172), Value.none, Value.none, Value.none, Value.none, (i 396), (i 36), (s "/claim/cut.py" 397)]
def o174 : Obj := (Obj.mk (ty "frame") none Data.plain #[(some (r 173)), (some (r 3)), (some (r 170)), none, (some (s "lapseeds.errors" 194)), none, (some (r 0))])
def o175 : Obj := tu []
def o176 (P : Params) : Obj := di [en P "__module__" 398 (s "lapseeds.errors" 194), en P "__firstlineno__" 402 (Value.int 36 401), en P "__static_attributes__" 403 (r 175), en P "__doc__" 404 Value.none] 2
def o177 : Obj := (Obj.mk (ty "type") none (Data.cls (ClassData.mk "Unlike" [(r 31)] [(r 177), (r 31), (ty "ValueError"), (ty "Exception"), (ty "BaseException"), (ty "object")] 176 "Unlike" true [] [] false none false)) #[(some (r 168)), none, (some (s "Unlike" 391)), (some (s "Unlike" 399)), (some (bi "ValueError.__new__")), (some (Value.bool true))])
def o178 : Obj := fo "super" [(r 177), (r 177), (r 177)]
def o179 : Obj := fo "builtin_function_or_method" [(bi "object.__init_subclass__"), (r 177)]
def o180 : Obj := tu []
def o181 : Obj := fi []
def o182 : Obj := tu [(s "value" 414)]
def o183 : Obj := tu []
def o184 : Obj := fu Value.none "is_whole" "is_whole" d8 0 [] Value.none Value.none Value.none Value.none none Value.none Value.none 0
def o185 : Obj := fo "code" [(s "is_whole" 411), (s "is_whole" 412), (s "/claim/cut.py" 413), (i 40), (i 1), (i 0), (i 0), (i 3), (r 180), (Value.bool true), (i 181), (r 181), Value.none, (r 182), (r 183), (r 184), (i 415), (i 40), (s "/claim/cut.py" 416)]
def o186 : Obj := fu (ty "function") "is_whole" "is_whole" d8 3 [] Value.none Value.none Value.none (s "lapseeds.checks" 407) none (r 185) Value.none 0
def o187 : Obj := tu []
def o188 : Obj := fi []
def o189 : Obj := tu [(s "value" 421), (s "low" 422), (s "high" 423)]
def o190 : Obj := tu []
def o191 : Obj := fu Value.none "is_between" "is_between" d9 0 [] Value.none Value.none Value.none Value.none none Value.none Value.none 0
def o192 : Obj := fo "code" [(s "is_between" 418), (s "is_between" 419), (s "/claim/cut.py" 420), (i 42), (i 3), (i 0), (i 0), (i 3), (r 187), (Value.bool true), (i 181), (r 188), Value.none, (r 189), (r 190), (r 191), (i 424), (i 42), (s "/claim/cut.py" 425)]
def o193 : Obj := fu (ty "function") "is_between" "is_between" d9 3 [] Value.none Value.none Value.none (s "lapseeds.checks" 407) none (r 192) Value.none 0
def o194 : Obj := tu []
def o195 : Obj := fi []
def o196 : Obj := fu Value.none "number_in" "number_in" d10 0 [] Value.none Value.none Value.none Value.none none Value.none Value.none 0
def o197 : Obj := fo "code" [(s "number_in" 427), (s "number_in" 428), (s "/claim/cut.py" 429), (i 44), (i 2), (i 0), (i 0), (i 3), (r 194), (Value.bool true), (i 181), (r 195), Value.none, Value.none, Value.none, (r 196), (i 430), (i 44), (s "/claim/cut.py" 431)]
def o198 : Obj := fu (ty "function") "number_in" "number_in" d10 3 [] Value.none Value.none Value.none (s "lapseeds.checks" 407) none (r 197) Value.none 0
def o199 : Obj := tu []
def o200 : Obj := fi []
def o201 : Obj := tu [(s "listed" 440), (s "is_endless" 441), (s "found" 442)]
def o202 : Obj := tu []
def o203 : Obj := fu Value.none "bound_of" "bound_of" d11 0 [] Value.none Value.none Value.none Value.none none Value.none Value.none 0
def o204 : Obj := fo "code" [(s "bound_of" 437), (s "bound_of" 438), (s "/claim/cut.py" 439), (i 50), (i 2), (i 0), (i 0), (i 3), (r 199), (Value.bool true), (i 181), (r 200), Value.none, (r 201), (r 202), (r 203), (i 443), (i 50), (s "/claim/cut.py" 444)]
def o205 : Obj := fu (ty "function") "bound_of" "bound_of" d11 3 [] Value.none Value.none Value.none (s "lapseeds.helds" 433) none (r 204) Value.none 0
def T1 (P : Params) : BT := nd (boot_o_0 P) (nd (boot_o_1 P) (nd (o3_1 P) (nd (boot_o_7 P) (nd o15 (nd o31 (nd o63 (lf o127) (lf o191)) (nd o95 (lf o159) .nil)) (nd o47 (nd o79 (lf o143) .nil) (nd o111 (lf o175) .nil))) (nd o23 (nd o39 (nd o71 (lf o135) (lf o199)) (nd o103 (lf o167) .nil)) (nd o55 (nd o87 (lf (o151 P)) .nil) (nd o119 (lf o183) .nil)))) (nd o11 (nd o19 (nd o35 (nd o67 (lf o131) (lf o195)) (nd o99 (lf o163) .nil)) (nd o51 (nd o83 (lf o147) .nil) (nd o115 (lf o179) .nil))) (nd o27 (nd o43 (nd (o75 P) (lf o139) (lf o203)) (nd (o107 P) (lf o171) .nil)) (nd o59 (nd o91 (lf o155) .nil) (nd o123 (lf o187) .nil))))) (nd (boot_o_5 P) (nd (boot_o_9 P) (nd o17 (nd o33 (nd o65 (lf o129) (lf o193)) (nd o97 (lf o161) .nil)) (nd o49 (nd o81 (lf (o145 P)) .nil) (nd (o113 P) (lf o177) .nil))) (nd o25 (nd o41 (nd o73 (lf o137) (lf o201)) (nd o105 (lf o169) .nil)) (nd o57 (nd o89 (lf o153) .nil) (nd o121 (lf o185) .nil)))) (nd o13 (nd o21 (nd (o37 P) (nd (o69 P) (lf o133) (lf o197)) (nd o101 (lf o165) .nil)) (nd o53 (nd o85 (lf o149) .nil) (nd o117 (lf o181) .nil))) (nd o29 (nd o45 (nd o77 (lf o141) (lf o205)) (nd o109 (lf o173) .nil)) (nd o61 (nd o93 (lf o157) .nil) (nd o125 (lf o189) .nil)))))) (nd (boot_o_2 P) (nd (boot_o_4 P) (nd (boot_o_8 P) (nd o16 (nd o32 (nd o64 (lf o128) (lf o192)) (nd o96 (lf o160) .nil)) (nd o48 (nd o80 (lf o144) .nil) (nd o112 (lf (o176 P)) .nil))) (nd (o24 P) (nd o40 (nd o72 (lf o136) (lf o200)) (nd o104 (lf o168) .nil)) (nd (o56 P) (nd (o88 P) (lf o152) .nil) (nd o120 (lf o184) .nil)))) (nd o12_1 (nd o20 (nd o36 (nd o68 (lf (o132 P)) (lf o196)) (nd o100 (lf (o164 P)) .nil)) (nd o52 (nd o84 (lf o148) .nil) (nd o116 (lf o180) .nil))) (nd o28 (nd o44 (nd o76 (lf o140) (lf o204)) (nd o108 (lf o172) .nil)) (nd o60 (nd o92 (lf o156) .nil) (nd o124 (lf o188) .nil))))) (nd (boot_o_6 P) (nd (boot_o_10 P) (nd o18 (nd o34 (nd o66 (lf o130) (lf o194)) (nd o98 (lf o162) .nil)) (nd (o50 P) (nd o82 (lf o146) .nil) (nd o114 (lf o178) .nil))) (nd o26 (nd o42 (nd o74 (lf o138) (lf o202)) (nd o106 (lf (o170 P)) .nil)) (nd o58 (nd o90 (lf o154) .nil) (nd o122 (lf o186) .nil)))) (nd o14 (nd o22 (nd o38 (nd o70 (lf o134) (lf o198)) (nd o102 (lf o166) .nil)) (nd o54 (nd o86 (lf o150) .nil) (nd o118 (lf o182) .nil))) (nd (o30 P) (nd o46 (nd o78 (lf o142) .nil) (nd o110 (lf o174) .nil)) (nd o62 (nd (o94 P) (lf o158) .nil) (nd (o126 P) (lf o190) .nil))))))
def S1 (w : World) (os : OsState) : SharedT := ⟨T1 w.params, 206, (boot_heap w.params).life, #[], boot_drawn, 446, os⟩
def o3_2 (P : Params) : Obj := di [en P "__name__" 165 (s "lapseeds.rings" 691), en P "__doc__" 166 Value.none, en P "__package__" 167 Value.none, en P "__loader__" 168 (bi "__main__.__loader__#opaque"), en P "__spec__" 169 Value.none, en P "__annotations__" 170 (r 6), en P "__builtins__" 171 (r 4), en P "__file__" 173 (s "/claim/cut.py" 172), en P "__cached__" 174 Value.none, en P "_wall" 193 (r 21), en P "LapError" 213 (r 31), en P "BadHeld" 238 (r 51), en P "BadRing" 263 (r 70), en P "BadPlayer" 288 (r 89), en P "BadPit" 313 (r 108), en P "BadEnd" 338 (r 127), en P "BadNumber" 363 (r 146), en P "BadText" 390 (r 165), en P "Unlike" 406 (r 177), en P "FIGURES" 410 (s "0123456789" 409), en P "is_whole" 417 (r 186), en P "is_between" 426 (r 193), en P "number_in" 432 (r 198), en P "MOST_NUMBER" 436 (Value.int 3 435), en P "bound_of" 445 (r 205), en P "Held" 668 (r 359), en P "held_of" 674 (r 368), en P "told_held" 680 (r 373), en P "need_seeds" 690 (r 380), en P "LEAST_SIZE" 694 (Value.int 2 693), en P "MOST_SIZE" 696 (Value.int 6 695), en P "SIGNS" 698 (s "abABo" 697), en P "PITS" 700 (s "ab" 699), en P "STORES" 702 (s "AB" 701)] 34
def o12_2 : Obj := fi [(i 1), (i 0), (r 20), (i 5), (i 0), (r 27), (i 7), (i 0), (r 40), (i 11), (i 0), (r 59), (i 15), (i 0), (r 78), (i 19), (i 0), (r 97), (i 23), (i 0), (r 116), (i 27), (i 0), (r 135), (i 31), (i 0), (r 154), (i 36), (i 0), (r 173), (i 40), (i 0), (r 185), (i 42), (i 0), (r 192), (i 44), (i 0), (r 197), (i 50), (i 0), (r 204), (i 55), (i 0), (r 211), (i 149), (i 0), (r 367), (i 153), (i 0), (r 372), (i 167), (i 0), (r 379)]
def o206 : Obj := tu []
def o207 : Obj := fo "builtin_function_or_method" [(bi "type.__prepare__"), (ty "type")]
def o208 (P : Params) : Obj := di [en P "__module__" 453 (s "lapseeds.helds" 433), en P "__qualname__" 455 (s "Held" 454), en P "__firstlineno__" 457 (Value.int 55 456), en P "MOST" 459 (Value.int 3 458), en P "__init__" 466 (r 218), en P "onward" 484 (r 225), en P "every" 502 (r 235), en P "none" 520 (r 245), en P "read" 541 (r 255), en P "each" 549 (r 263), en P "need_held" 557 (r 270), en P "truths" 563 (r 275), en P "pairs" 571 (r 282), en P "__contains__" 579 (r 289), en P "__bool__" 586 (r 296), en P "__or__" 592 (r 301), en P "__and__" 598 (r 306), en P "__sub__" 604 (r 311), en P "__invert__" 610 (r 316), en P "__le__" 618 (r 323), en P "__lt__" 626 (r 330), en P "__ge__" 634 (r 337), en P "__gt__" 642 (r 344), en P "__eq__" 650 (r 351), en P "__str__" 656 (r 356), en P "__static_attributes__" 660 (r 357)] 26
def o209 : Obj := tu []
def o210 : Obj := fi [(i 58), (i 4), (r 217), (i 67), (i 4), (r 222), (i 73), (i 4), (r 232), (i 77), (i 4), (r 242), (i 81), (i 4), (r 252), (i 89), (i 4), (r 262), (i 96), (i 4), (r 269), (i 100), (i 4), (r 274), (i 103), (i 4), (r 281), (i 107), (i 4), (r 288), (i 112), (i 4), (r 295), (i 115), (i 4), (r 300), (i 118), (i 4), (r 305), (i 121), (i 4), (r 310), (i 124), (i 4), (r 315), (i 127), (i 4), (r 322), (i 130), (i 4), (r 329), (i 133), (i 4), (r 336), (i 136), (i 4), (r 343), (i 139), (i 4), (r 350), (i 142), (i 4), (r 355)]
def o211 : Obj := fo "code" [(s "Held" 448), (s "Held" 449), (s "/claim/cut.py" 450), (i 55), (i 0), (i 0), (i 0), (i 0), (r 209), (Value.bool false), (i 181), (r 210), Value.none, Value.none, Value.none, Value.none, (i 451), (i 55), (s "/claim/cut.py" 452)]
def o212 : Obj := (Obj.mk (ty "frame") none Data.plain #[(some (r 211)), (some (r 3)), (some (r 208)), none, (some (s "lapseeds.helds" 433)), none, (some (r 0))])
def o213 (P : Params) : Obj := di [en P "beyond" 460 (Value.bool false)] 1
def o214 : Obj := tu []
def o215 : Obj := fi []
def o216 : Obj := fu Value.none "__init__" "Held.__init__" d12 0 [] Value.none Value.none Value.none Value.none none Value.none Value.none 0
def o217 : Obj := fo "code" [(s "__init__" 461), (s "Held.__init__" 462), (s "/claim/cut.py" 463), (i 58), (i 1), (i 0), (i 1), (i 7), (r 214), (Value.bool true), (i 181), (r 215), Value.none, Value.none, Value.none, (r 216), (i 464), (i 58), (s "/claim/cut.py" 465)]
def o218 : Obj := fu (ty "function") "__init__" "Held.__init__" d12 3 [] Value.none (r 213) Value.none (s "lapseeds.helds" 433) none (r 217) Value.none 0
def o219 : Obj := tu []
def o220 : Obj := fi []
def o221 : Obj := fu Value.none "onward" "Held.onward" d13 0 [] Value.none Value.none Value.none Value.none none Value.none Value.none 0
def o222 : Obj := fo "code" [(s "onward" 467), (s "Held.onward" 468), (s "/claim/cut.py" 469), (i 66), (i 1), (i 0), (i 0), (i 3), (r 219), (Value.bool true), (i 181), (r 220), Value.none, Value.none, Value.none, (r 221), (i 470), (i 66), (s "/claim/cut.py" 471)]
def o223 : Obj := fu (ty "function") "onward" "Held.onward" d13 3 [] Value.none Value.none Value.none (s "lapseeds.helds" 433) (some 226) (r 222) Value.none 0
def o224 (P : Params) : Obj := di [en P "__module__" 473 (s "lapseeds.helds" 433), en P "__name__" 476 (s "onward" 475), en P "__qualname__" 479 (s "Held.onward" 478), en P "__doc__" 481 Value.none, en P "__annotations__" 483 (r 226)] 5
def o225 : Obj := (Obj.mk (ty "staticmethod") (some 224) (Data.fields #[(r 223), (Value.bool false)]) #[])
def o226 : Obj := di [] 0
def o227 : Obj := tu []
def o228 : Obj := fi []
def o229 : Obj := tu []
def o230 : Obj := tu []
def o231 : Obj := fu Value.none "every" "Held.every" d14 0 [] Value.none Value.none Value.none Value.none none Value.none Value.none 0
def o232 : Obj := fo "code" [(s "every" 485), (s "Held.every" 486), (s "/claim/cut.py" 487), (i 72), (i 0), (i 0), (i 0), (i 3), (r 227), (Value.bool true), (i 181), (r 228), Value.none, (r 229), (r 230), (r 231), (i 488), (i 72), (s "/claim/cut.py" 489)]
def o233 : Obj := fu (ty "function") "every" "Held.every" d14 3 [] Value.none Value.none Value.none (s "lapseeds.helds" 433) (some 236) (r 232) Value.none 0
def o234 (P : Params) : Obj := di [en P "__module__" 491 (s "lapseeds.helds" 433), en P "__name__" 494 (s "every" 493), en P "__qualname__" 497 (s "Held.every" 496), en P "__doc__" 499 Value.none, en P "__annotations__" 501 (r 236)] 5
def o235 : Obj := (Obj.mk (ty "staticmethod") (some 234) (Data.fields #[(r 233), (Value.bool false)]) #[])
def o236 : Obj := di [] 0
def o237 : Obj := tu []
def o238 : Obj := fi []
def o239 : Obj := tu []
def o240 : Obj := tu []
def o241 : Obj := fu Value.none "none" "Held.none" d15 0 [] Value.none Value.none Value.none Value.none none Value.none Value.none 0
def o242 : Obj := fo "code" [(s "none" 503), (s "Held.none" 504), (s "/claim/cut.py" 505), (i 76), (i 0), (i 0), (i 0), (i 3), (r 237), (Value.bool true), (i 181), (r 238), Value.none, (r 239), (r 240), (r 241), (i 506), (i 76), (s "/claim/cut.py" 507)]
def o243 : Obj := fu (ty "function") "none" "Held.none" d15 3 [] Value.none Value.none Value.none (s "lapseeds.helds" 433) (some 246) (r 242) Value.none 0
def o244 (P : Params) : Obj := di [en P "__module__" 509 (s "lapseeds.helds" 433), en P "__name__" 512 (s "none" 511), en P "__qualname__" 515 (s "Held.none" 514), en P "__doc__" 517 Value.none, en P "__annotations__" 519 (r 246)] 5
def o245 : Obj := (Obj.mk (ty "staticmethod") (some 244) (Data.fields #[(r 243), (Value.bool false)]) #[])
def o246 : Obj := di [] 0
def o247 : Obj := tu []
def o248 : Obj := fi []
def o249 : Obj := tu [(s "cls" 524), (s "text" 525), (s "found" 526)]
def o250 : Obj := tu []
def o251 : Obj := fu Value.none "read" "Held.read" d16 0 [] Value.none Value.none Value.none Value.none none Value.none Value.none 0
def o252 : Obj := fo "code" [(s "read" 521), (s "Held.read" 522), (s "/claim/cut.py" 523), (i 80), (i 2), (i 0), (i 0), (i 3), (r 247), (Value.bool true), (i 181), (r 248), Value.none, (r 249), (r 250), (r 251), (i 527), (i 80), (s "/claim/cut.py" 528)]
def o253 : Obj := fu (ty "function") "read" "Held.read" d16 3 [] Value.none Value.none Value.none (s "lapseeds.helds" 433) (some 256) (r 252) Value.none 0
def o254 (P : Params) : Obj := di [en P "__module__" 530 (s "lapseeds.helds" 433), en P "__name__" 533 (s "read" 532), en P "__qualname__" 536 (s "Held.read" 535), en P "__doc__" 538 Value.none, en P "__annotations__" 540 (r 256)] 5
def o255 : Obj := (Obj.mk (ty "classmethod") (some 254) (Data.fields #[(r 253), (Value.bool false)]) #[])
def o256 : Obj := di [] 0
def o257 : Obj := tu []
def o258 : Obj := fi []
def o259 : Obj := tu [(s "self" 545), (s "number" 546)]
def o260 : Obj := tu []
def o261 : Obj := fu Value.none "each" "Held.each" d17 0 [] Value.none Value.none Value.none Value.none none Value.none Value.none 0
def o262 : Obj := fo "code" [(s "each" 542), (s "Held.each" 543), (s "/claim/cut.py" 544), (i 89), (i 1), (i 0), (i 0), (i 35), (r 257), (Value.bool true), (i 181), (r 258), Value.none, (r 259), (r 260), (r 261), (i 547), (i 89), (s "/claim/cut.py" 548)]
def o263 : Obj := fu (ty "function") "each" "Held.each" d17 3 [] Value.none Value.none Value.none (s "lapseeds.helds" 433) none (r 262) Value.none 0
def o264 : Obj := tu []
def o265 : Obj := fi []
def o266 : Obj := tu [(s "self" 553), (s "other" 554)]
def o267 : Obj := tu []
def o268 : Obj := fu Value.none "need_held" "Held.need_held" d18 0 [] Value.none Value.none Value.none Value.none none Value.none Value.none 0
def o269 : Obj := fo "code" [(s "need_held" 550), (s "Held.need_held" 551), (s "/claim/cut.py" 552), (i 96), (i 2), (i 0), (i 0), (i 3), (r 264), (Value.bool true), (i 181), (r 265), Value.none, (r 266), (r 267), (r 268), (i 555), (i 96), (s "/claim/cut.py" 556)]
def o270 : Obj := fu (ty "function") "need_held" "Held.need_held" d18 3 [] Value.none Value.none Value.none (s "lapseeds.helds" 433) none (r 269) Value.none 0
def o271 : Obj := tu []
def o272 : Obj := fi []
def o273 : Obj := fu Value.none "truths" "Held.truths" d19 0 [] Value.none Value.none Value.none Value.none none Value.none Value.none 0
def o274 : Obj := fo "code" [(s "truths" 558), (s "Held.truths" 559), (s "/claim/cut.py" 560), (i 100), (i 1), (i 0), (i 0), (i 3), (r 271), (Value.bool true), (i 181), (r 272), Value.none, Value.none, Value.none, (r 273), (i 561), (i 100), (s "/claim/cut.py" 562)]
def o275 : Obj := fu (ty "function") "truths" "Held.truths" d19 3 [] Value.none Value.none Value.none (s "lapseeds.helds" 433) none (r 274) Value.none 0
def o276 : Obj := tu []
def o277 : Obj := fi []
def o278 : Obj := tu [(s "self" 567), (s "other" 568)]
def o279 : Obj := tu []
def o280 : Obj := fu Value.none "pairs" "Held.pairs" d20 0 [] Value.none Value.none Value.none Value.none none Value.none Value.none 0
def o281 : Obj := fo "code" [(s "pairs" 564), (s "Held.pairs" 565), (s "/claim/cut.py" 566), (i 103), (i 2), (i 0), (i 0), (i 3), (r 276), (Value.bool true), (i 181), (r 277), Value.none, (r 278), (r 279), (r 280), (i 569), (i 103), (s "/claim/cut.py" 570)]
def o282 : Obj := fu (ty "function") "pairs" "Held.pairs" d20 3 [] Value.none Value.none Value.none (s "lapseeds.helds" 433) none (r 281) Value.none 0
def o283 : Obj := tu []
def o284 : Obj := fi []
def o285 : Obj := tu [(s "self" 575), (s "n" 576)]
def o286 : Obj := tu []
def o287 : Obj := fu Value.none "__contains__" "Held.__contains__" d21 0 [] Value.none Value.none Value.none Value.none none Value.none Value.none 0
def o288 : Obj := fo "code" [(s "__contains__" 572), (s "Held.__contains__" 573), (s "/claim/cut.py" 574), (i 107), (i 2), (i 0), (i 0), (i 3), (r 283), (Value.bool true), (i 181), (r 284), Value.none, (r 285), (r 286), (r 287), (i 577), (i 107), (s "/claim/cut.py" 578)]
def o289 : Obj := fu (ty "function") "__contains__" "Held.__contains__" d21 3 [] Value.none Value.none Value.none (s "lapseeds.helds" 433) none (r 288) Value.none 0
def o290 : Obj := tu []
def o291 : Obj := fi []
def o292 : Obj := tu [(s "self" 583)]
def o293 : Obj := tu []
def o294 : Obj := fu Value.none "__bool__" "Held.__bool__" d22 0 [] Value.none Value.none Value.none Value.none none Value.none Value.none 0
def o295 : Obj := fo "code" [(s "__bool__" 580), (s "Held.__bool__" 581), (s "/claim/cut.py" 582), (i 112), (i 1), (i 0), (i 0), (i 3), (r 290), (Value.bool true), (i 181), (r 291), Value.none, (r 292), (r 293), (r 294), (i 584), (i 112), (s "/claim/cut.py" 585)]
def o296 : Obj := fu (ty "function") "__bool__" "Held.__bool__" d22 3 [] Value.none Value.none Value.none (s "lapseeds.helds" 433) none (r 295) Value.none 0
def o297 : Obj := tu []
def o298 : Obj := fi []
def o299 : Obj := fu Value.none "__or__" "Held.__or__" d23 0 [] Value.none Value.none Value.none Value.none none Value.none Value.none 0
def o300 : Obj := fo "code" [(s "__or__" 587), (s "Held.__or__" 588), (s "/claim/cut.py" 589), (i 115), (i 2), (i 0), (i 0), (i 3), (r 297), (Value.bool true), (i 181), (r 298), Value.none, Value.none, Value.none, (r 299), (i 590), (i 115), (s "/claim/cut.py" 591)]
def o301 : Obj := fu (ty "function") "__or__" "Held.__or__" d23 3 [] Value.none Value.none Value.none (s "lapseeds.helds" 433) none (r 300) Value.none 0
def o302 : Obj := tu []
def o303 : Obj := fi []
def o304 : Obj := fu Value.none "__and__" "Held.__and__" d24 0 [] Value.none Value.none Value.none Value.none none Value.none Value.none 0
def o305 : Obj := fo "code" [(s "__and__" 593), (s "Held.__and__" 594), (s "/claim/cut.py" 595), (i 118), (i 2), (i 0), (i 0), (i 3), (r 302), (Value.bool true), (i 181), (r 303), Value.none, Value.none, Value.none, (r 304), (i 596), (i 118), (s "/claim/cut.py" 597)]
def o306 : Obj := fu (ty "function") "__and__" "Held.__and__" d24 3 [] Value.none Value.none Value.none (s "lapseeds.helds" 433) none (r 305) Value.none 0
def o307 : Obj := tu []
def o308 : Obj := fi []
def o309 : Obj := fu Value.none "__sub__" "Held.__sub__" d25 0 [] Value.none Value.none Value.none Value.none none Value.none Value.none 0
def o310 : Obj := fo "code" [(s "__sub__" 599), (s "Held.__sub__" 600), (s "/claim/cut.py" 601), (i 121), (i 2), (i 0), (i 0), (i 3), (r 307), (Value.bool true), (i 181), (r 308), Value.none, Value.none, Value.none, (r 309), (i 602), (i 121), (s "/claim/cut.py" 603)]
def o311 : Obj := fu (ty "function") "__sub__" "Held.__sub__" d25 3 [] Value.none Value.none Value.none (s "lapseeds.helds" 433) none (r 310) Value.none 0
def o312 : Obj := tu []
def o313 : Obj := fi []
def o314 : Obj := fu Value.none "__invert__" "Held.__invert__" d26 0 [] Value.none Value.none Value.none Value.none none Value.none Value.none 0
def o315 : Obj := fo "code" [(s "__invert__" 605), (s "Held.__invert__" 606), (s "/claim/cut.py" 607), (i 124), (i 1), (i 0), (i 0), (i 3), (r 312), (Value.bool true), (i 181), (r 313), Value.none, Value.none, Value.none, (r 314), (i 608), (i 124), (s "/claim/cut.py" 609)]
def o316 : Obj := fu (ty "function") "__invert__" "Held.__invert__" d26 3 [] Value.none Value.none Value.none (s "lapseeds.helds" 433) none (r 315) Value.none 0
def o317 : Obj := tu []
def o318 : Obj := fi []
def o319 : Obj := tu [(s "self" 614), (s "other" 615)]
def o320 : Obj := tu []
def o321 : Obj := fu Value.none "__le__" "Held.__le__" d27 0 [] Value.none Value.none Value.none Value.none none Value.none Value.none 0
def o322 : Obj := fo "code" [(s "__le__" 611), (s "Held.__le__" 612), (s "/claim/cut.py" 613), (i 127), (i 2), (i 0), (i 0), (i 3), (r 317), (Value.bool true), (i 181), (r 318), Value.none, (r 319), (r 320), (r 321), (i 616), (i 127), (s "/claim/cut.py" 617)]
def o323 : Obj := fu (ty "function") "__le__" "Held.__le__" d27 3 [] Value.none Value.none Value.none (s "lapseeds.helds" 433) none (r 322) Value.none 0
def o324 : Obj := tu []
def o325 : Obj := fi []
def o326 : Obj := tu [(s "self" 622), (s "other" 623)]
def o327 : Obj := tu []
def o328 : Obj := fu Value.none "__lt__" "Held.__lt__" d28 0 [] Value.none Value.none Value.none Value.none none Value.none Value.none 0
def o329 : Obj := fo "code" [(s "__lt__" 619), (s "Held.__lt__" 620), (s "/claim/cut.py" 621), (i 130), (i 2), (i 0), (i 0), (i 3), (r 324), (Value.bool true), (i 181), (r 325), Value.none, (r 326), (r 327), (r 328), (i 624), (i 130), (s "/claim/cut.py" 625)]
def o330 : Obj := fu (ty "function") "__lt__" "Held.__lt__" d28 3 [] Value.none Value.none Value.none (s "lapseeds.helds" 433) none (r 329) Value.none 0
def o331 : Obj := tu []
def o332 : Obj := fi []
def o333 : Obj := tu [(s "self" 630), (s "other" 631)]
def o334 : Obj := tu []
def o335 : Obj := fu Value.none "__ge__" "Held.__ge__" d29 0 [] Value.none Value.none Value.none Value.none none Value.none Value.none 0
def o336 : Obj := fo "code" [(s "__ge__" 627), (s "Held.__ge__" 628), (s "/claim/cut.py" 629), (i 133), (i 2), (i 0), (i 0), (i 3), (r 331), (Value.bool true), (i 181), (r 332), Value.none, (r 333), (r 334), (r 335), (i 632), (i 133), (s "/claim/cut.py" 633)]
def o337 : Obj := fu (ty "function") "__ge__" "Held.__ge__" d29 3 [] Value.none Value.none Value.none (s "lapseeds.helds" 433) none (r 336) Value.none 0
def o338 : Obj := tu []
def o339 : Obj := fi []
def o340 : Obj := tu [(s "self" 638), (s "other" 639)]
def o341 : Obj := tu []
def o342 : Obj := fu Value.none "__gt__" "Held.__gt__" d30 0 [] Value.none Value.none Value.none Value.none none Value.none Value.none 0
def o343 : Obj := fo "code" [(s "__gt__" 635), (s "Held.__gt__" 636), (s "/claim/cut.py" 637), (i 136), (i 2), (i 0), (i 0), (i 3), (r 338), (Value.bool true), (i 181), (r 339), Value.none, (r 340), (r 341), (r 342), (i 640), (i 136), (s "/claim/cut.py" 641)]
def o344 : Obj := fu (ty "function") "__gt__" "Held.__gt__" d30 3 [] Value.none Value.none Value.none (s "lapseeds.helds" 433) none (r 343) Value.none 0
def o345 : Obj := tu []
def o346 : Obj := fi []
def o347 : Obj := tu [(s "self" 646), (s "other" 647)]
def o348 : Obj := tu []
def o349 : Obj := fu Value.none "__eq__" "Held.__eq__" d31 0 [] Value.none Value.none Value.none Value.none none Value.none Value.none 0
def o350 : Obj := fo "code" [(s "__eq__" 643), (s "Held.__eq__" 644), (s "/claim/cut.py" 645), (i 139), (i 2), (i 0), (i 0), (i 3), (r 345), (Value.bool true), (i 181), (r 346), Value.none, (r 347), (r 348), (r 349), (i 648), (i 139), (s "/claim/cut.py" 649)]
def o351 : Obj := fu (ty "function") "__eq__" "Held.__eq__" d31 3 [] Value.none Value.none Value.none (s "lapseeds.helds" 433) none (r 350) Value.none 0
def o352 : Obj := tu []
def o353 : Obj := fi []
def o354 : Obj := fu Value.none "__str__" "Held.__str__" d32 0 [] Value.none Value.none Value.none Value.none none Value.none Value.none 0
def o355 : Obj := fo "code" [(s "__str__" 651), (s "Held.__str__" 652), (s "/claim/cut.py" 653), (i 142), (i 1), (i 0), (i 0), (i 3), (r 352), (Value.bool true), (i 181), (r 353), Value.none, Value.none, Value.none, (r 354), (i 654), (i 142), (s "/claim/cut.py" 655)]
def o356 : Obj := fu (ty "function") "__str__" "Held.__str__" d32 3 [] Value.none Value.none Value.none (s "lapseeds.helds" 433) none (r 355) Value.none 0
def o357 : Obj := tu [(s "bound" 657), (s "is_endless" 658), (s "listed" 659)]
def o358 (P : Params) : Obj := di [en P "__module__" 453 (s "lapseeds.helds" 433), en P "__firstlineno__" 457 (Value.int 55 456), en P "MOST" 459 (Value.int 3 458), en P "__init__" 466 (r 218), en P "onward" 484 (r 225), en P "every" 502 (r 235), en P "none" 520 (r 245), en P "read" 541 (r 255), en P "each" 549 (r 263), en P "need_held" 557 (r 270), en P "truths" 563 (r 275), en P "pairs" 571 (r 282), en P "__contains__" 579 (r 289), en P "__bool__" 586 (r 296), en P "__or__" 592 (r 301), en P "__and__" 598 (r 306), en P "__sub__" 604 (r 311), en P "__invert__" 610 (r 316), en P "__le__" 618 (r 323), en P "__lt__" 626 (r 330), en P "__ge__" 634 (r 337), en P "__gt__" 642 (r 344), en P "__eq__" 650 (r 351), en P "__str__" 656 (r 356), en P "__static_attributes__" 660 (r 357), en P "__dict__" 662 (r 360), en P "__weakref__" 664 (r 361), en P "__doc__" 665 Value.none, en P "__hash__" 666 Value.none] 5
def o359 : Obj := (Obj.mk (ty "type") none (Data.cls (ClassData.mk "Held" [(ty "object")] [(r 359), (ty "object")] 358 "Held" true [] [] false none false)) #[none, none, (some (s "Held" 446)), (some (s "Held" 454)), (some (bi "object.__new__")), (some (Value.bool true))])
def o360 : Obj := fo "getset_descriptor" [(s "__dict__" 661), (r 359), (bi "function.__dict__"), (bi "function.__dict__#set")]
def o361 : Obj := fo "getset_descriptor" [(s "__weakref__" 663), (r 359), (bi "ExceptionGroup.__weakref__"), Value.none]
def o362 : Obj := fo "super" [(r 359), (r 359), (r 359)]
def o363 : Obj := fo "builtin_function_or_method" [(bi "object.__init_subclass__"), (r 359)]
def o364 : Obj := tu []
def o365 : Obj := fi []
def o366 : Obj := fu Value.none "held_of" "held_of" d33 0 [] Value.none Value.none Value.none Value.none none Value.none Value.none 0
def o367 : Obj := fo "code" [(s "held_of" 669), (s "held_of" 670), (s "/claim/cut.py" 671), (i 149), (i 1), (i 0), (i 0), (i 3), (r 364), (Value.bool true), (i 181), (r 365), Value.none, Value.none, Value.none, (r 366), (i 672), (i 149), (s "/claim/cut.py" 673)]
def o368 : Obj := fu (ty "function") "held_of" "held_of" d33 3 [] Value.none Value.none Value.none (s "lapseeds.helds" 433) none (r 367) Value.none 0
def o369 : Obj := tu []
def o370 : Obj := fi []
def o371 : Obj := fu Value.none "told_held" "told_held" d34 0 [] Value.none Value.none Value.none Value.none none Value.none Value.none 0
def o372 : Obj := fo "code" [(s "told_held" 675), (s "told_held" 676), (s "/claim/cut.py" 677), (i 153), (i 1), (i 0), (i 0), (i 3), (r 369), (Value.bool true), (i 181), (r 370), Value.none, Value.none, Value.none, (r 371), (i 678), (i 153), (s "/claim/cut.py" 679)]
def o373 : Obj := fu (ty "function") "told_held" "told_held" d34 3 [] Value.none Value.none Value.none (s "lapseeds.helds" 433) none (r 372) Value.none 0
def o374 : Obj := tu []
def o375 : Obj := fi []
def o376 : Obj := tu [(s "seeds" 686), (s "low" 687)]
def o377 : Obj := tu []
def o378 : Obj := fu Value.none "need_seeds" "need_seeds" d35 0 [] Value.none Value.none Value.none Value.none none Value.none Value.none 0
def o379 : Obj := fo "code" [(s "need_seeds" 683), (s "need_seeds" 684), (s "/claim/cut.py" 685), (i 167), (i 2), (i 0), (i 0), (i 3), (r 374), (Value.bool true), (i 181), (r 375), Value.none, (r 376), (r 377), (r 378), (i 688), (i 167), (s "/claim/cut.py" 689)]
def o380 : Obj := fu (ty "function") "need_seeds" "need_seeds" d35 3 [] Value.none Value.none Value.none (s "lapseeds.laps" 681) none (r 379) Value.none 0
def T2 (P : Params) : BT := nd (boot_o_0 P) (nd (boot_o_1 P) (nd (o3_2 P) (nd (boot_o_7 P) (nd o15 (nd o31 (nd o63 (nd o127 (lf o255) .nil) (nd o191 (lf o319) .nil)) (nd o95 (nd o159 (lf o287) .nil) (nd o223 (lf o351) .nil))) (nd o47 (nd o79 (nd o143 (lf o271) .nil) (nd o207 (lf o335) .nil)) (nd o111 (nd o175 (lf o303) .nil) (nd o239 (lf o367) .nil)))) (nd o23 (nd o39 (nd o71 (nd o135 (lf o263) .nil) (nd o199 (lf o327) .nil)) (nd o103 (nd o167 (lf o295) .nil) (nd o231 (lf o359) .nil))) (nd o55 (nd o87 (nd (o151 P) (lf o279) .nil) (nd o215 (lf o343) .nil)) (nd o119 (nd o183 (lf o311) .nil) (nd o247 (lf o375) .nil))))) (nd o11 (nd o19 (nd o35 (nd o67 (nd o131 (lf o259) .nil) (nd o195 (lf o323) .nil)) (nd o99 (nd o163 (lf o291) .nil) (nd o227 (lf o355) .nil))) (nd o51 (nd o83 (nd o147 (lf o275) .nil) (nd o211 (lf o339) .nil)) (nd o115 (nd o179 (lf o307) .nil) (nd o243 (lf o371) .nil)))) (nd o27 (nd o43 (nd (o75 P) (nd o139 (lf o267) .nil) (nd o203 (lf o331) .nil)) (nd (o107 P) (nd o171 (lf o299) .nil) (nd o235 (lf o363) .nil))) (nd o59 (nd o91 (nd o155 (lf o283) .nil) (nd o219 (lf o347) .nil)) (nd o123 (nd o187 (lf o315) .nil) (nd o251 (lf o379) .nil)))))) (nd (boot_o_5 P) (nd (boot_o_9 P) (nd o17 (nd o33 (nd o65 (nd o129 (lf o257) .nil) (nd o193 (lf o321) .nil)) (nd o97 (nd o161 (lf o289) .nil) (nd o225 (lf o353) .nil))) (nd o49 (nd o81 (nd (o145 P) (lf o273) .nil) (nd o209 (lf o337) .nil)) (nd (o113 P) (nd o177 (lf o305) .nil) (nd o241 (lf o369) .nil)))) (nd o25 (nd o41 (nd o73 (nd o137 (lf o265) .nil) (nd o201 (lf o329) .nil)) (nd o105 (nd o169 (lf o297) .nil) (nd o233 (lf o361) .nil))) (nd o57 (nd o89 (nd o153 (lf o281) .nil) (nd o217 (lf o345) .nil)) (nd o121 (nd o185 (lf o313) .nil) (nd o249 (lf o377) .nil))))) (nd o13 (nd o21 (nd (o37 P) (nd (o69 P) (nd o133 (lf o261) .nil) (nd o197 (lf o325) .nil)) (nd o101 (nd o165 (lf o293) .nil) (nd o229 (lf o357) .nil))) (nd o53 (nd o85 (nd o149 (lf o277) .nil) (nd (o213 P) (lf o341) .nil)) (nd o117 (nd o181 (lf o309) .nil) (nd o245 (lf o373) .nil)))) (nd o29 (nd o45 (nd o77 (nd o141 (lf o269) .nil) (nd o205 (lf o333) .nil)) (nd o109 (nd o173 (lf o301) .nil) (nd o237 (lf o365) .nil))) (nd o61 (nd o93 (nd o157 (lf o285) .nil) (nd o221 (lf o349) .nil)) (nd o125 (nd o189 (lf o317) .nil) (lf o253))))))) (nd (boot_o_2 P) (nd (boot_o_4 P) (nd (boot_o_8 P) (nd o16 (nd o32 (nd o64 (nd o128 (lf o256) .nil) (nd o192 (lf o320) .nil)) (nd o96 (nd o160 (lf o288) .nil) (nd (o224 P) (lf o352) .nil))) (nd o48 (nd o80 (nd o144 (lf o272) .nil) (nd (o208 P) (lf o336) .nil)) (nd o112 (nd (o176 P) (lf o304) .nil) (nd o240 (lf o368) .nil)))) (nd (o24 P) (nd o40 (nd o72 (nd o136 (lf o264) .nil) (nd o200 (lf o328) .nil)) (nd o104 (nd o168 (lf o296) .nil) (nd o232 (lf o360) .nil))) (nd (o56 P) (nd (o88 P) (nd o152 (lf o280) .nil) (nd o216 (lf o344) .nil)) (nd o120 (nd o184 (lf o312) .nil) (nd o248 (lf o376) .nil))))) (nd o12_2 (nd o20 (nd o36 (nd o68 (nd (o132 P) (lf o260) .nil) (nd o196 (lf o324) .nil)) (nd o100 (nd (o164 P) (lf o292) .nil) (nd o228 (lf o356) .nil))) (nd o52 (nd o84 (nd o148 (lf o276) .nil) (nd o212 (lf o340) .nil)) (nd o116 (nd o180 (lf o308) .nil) (nd (o244 P) (lf o372) .nil)))) (nd o28 (nd o44 (nd o76 (nd o140 (lf o268) .nil) (nd o204 (lf o332) .nil)) (nd o108 (nd o172 (lf o300) .nil) (nd o236 (lf o364) .nil))) (nd o60 (nd o92 (nd o156 (lf o284) .nil) (nd o220 (lf o348) .nil)) (nd o124 (nd o188 (lf o316) .nil) (nd o252 (lf o380) .nil)))))) (nd (boot_o_6 P) (nd (boot_o_10 P) (nd o18 (nd o34 (nd o66 (nd o130 (lf o258) .nil) (nd o194 (lf o322) .nil)) (nd o98 (nd o162 (lf o290) .nil) (nd o226 (lf o354) .nil))) (nd (o50 P) (nd o82 (nd o146 (lf o274) .nil) (nd o210 (lf o338) .nil)) (nd o114 (nd o178 (lf o306) .nil) (nd o242 (lf o370) .nil)))) (nd o26 (nd o42 (nd o74 (nd o138 (lf o266) .nil) (nd o202 (lf o330) .nil)) (nd o106 (nd (o170 P) (lf o298) .nil) (nd (o234 P) (lf o362) .nil))) (nd o58 (nd o90 (nd o154 (lf o282) .nil) (nd o218 (lf o346) .nil)) (nd o122 (nd o186 (lf o314) .nil) (nd o250 (lf o378) .nil))))) (nd o14 (nd o22 (nd o38 (nd o70 (nd o134 (lf o262) .nil) (nd o198 (lf o326) .nil)) (nd o102 (nd o166 (lf o294) .nil) (nd o230 (lf (o358 P)) .nil))) (nd o54 (nd o86 (nd o150 (lf o278) .nil) (nd o214 (lf o342) .nil)) (nd o118 (nd o182 (lf o310) .nil) (nd o246 (lf o374) .nil)))) (nd (o30 P) (nd o46 (nd o78 (nd o142 (lf o270) .nil) (nd o206 (lf o334) .nil)) (nd o110 (nd o174 (lf o302) .nil) (nd o238 (lf o366) .nil))) (nd o62 (nd (o94 P) (nd o158 (lf o286) .nil) (nd o222 (lf o350) .nil)) (nd (o126 P) (nd o190 (lf o318) .nil) (lf (o254 P))))))))
def S2 (w : World) (os : OsState) : SharedT := ⟨T2 w.params, 381, (boot_heap w.params).life, #[], boot_drawn, 703, os⟩
def o3_3 (P : Params) : Obj := di [en P "__name__" 165 (s "lapseeds.rings" 691), en P "__doc__" 166 Value.none, en P "__package__" 167 Value.none, en P "__loader__" 168 (bi "__main__.__loader__#opaque"), en P "__spec__" 169 Value.none, en P "__annotations__" 170 (r 6), en P "__builtins__" 171 (r 4), en P "__file__" 173 (s "/claim/cut.py" 172), en P "__cached__" 174 Value.none, en P "_wall" 193 (r 21), en P "LapError" 213 (r 31), en P "BadHeld" 238 (r 51), en P "BadRing" 263 (r 70), en P "BadPlayer" 288 (r 89), en P "BadPit" 313 (r 108), en P "BadEnd" 338 (r 127), en P "BadNumber" 363 (r 146), en P "BadText" 390 (r 165), en P "Unlike" 406 (r 177), en P "FIGURES" 410 (s "0123456789" 409), en P "is_whole" 417 (r 186), en P "is_between" 426 (r 193), en P "number_in" 432 (r 198), en P "MOST_NUMBER" 436 (Value.int 3 435), en P "bound_of" 445 (r 205), en P "Held" 668 (r 359), en P "held_of" 674 (r 368), en P "told_held" 680 (r 373), en P "need_seeds" 690 (r 380), en P "LEAST_SIZE" 694 (Value.int 2 693), en P "MOST_SIZE" 696 (Value.int 6 695), en P "SIGNS" 698 (s "abABo" 697), en P "PITS" 700 (s "ab" 699), en P "STORES" 702 (s "AB" 701), en P "EXCHANGED" 718 (r 381)] 35
def o381 (P : Params) : Obj := di [en P "a" 703 (s "b" 704), en P "b" 705 (s "a" 706), en P "A" 707 (s "B" 708), en P "B" 709 (s "A" 710), en P "o" 711 (s "o" 712)] 5
def T3 (P : Params) : BT := nd (boot_o_0 P) (nd (boot_o_1 P) (nd (o3_3 P) (nd (boot_o_7 P) (nd o15 (nd o31 (nd o63 (nd o127 (lf o255) .nil) (nd o191 (lf o319) .nil)) (nd o95 (nd o159 (lf o287) .nil) (nd o223 (lf o351) .nil))) (nd o47 (nd o79 (nd o143 (lf o271) .nil) (nd o207 (lf o335) .nil)) (nd o111 (nd o175 (lf o303) .nil) (nd o239 (lf o367) .nil)))) (nd o23 (nd o39 (nd o71 (nd o135 (lf o263) .nil) (nd o199 (lf o327) .nil)) (nd o103 (nd o167 (lf o295) .nil) (nd o231 (lf o359) .nil))) (nd o55 (nd o87 (nd (o151 P) (lf o279) .nil) (nd o215 (lf o343) .nil)) (nd o119 (nd o183 (lf o311) .nil) (nd o247 (lf o375) .nil))))) (nd o11 (nd o19 (nd o35 (nd o67 (nd o131 (lf o259) .nil) (nd o195 (lf o323) .nil)) (nd o99 (nd o163 (lf o291) .nil) (nd o227 (lf o355) .nil))) (nd o51 (nd o83 (nd o147 (lf o275) .nil) (nd o211 (lf o339) .nil)) (nd o115 (nd o179 (lf o307) .nil) (nd o243 (lf o371) .nil)))) (nd o27 (nd o43 (nd (o75 P) (nd o139 (lf o267) .nil) (nd o203 (lf o331) .nil)) (nd (o107 P) (nd o171 (lf o299) .nil) (nd o235 (lf o363) .nil))) (nd o59 (nd o91 (nd o155 (lf o283) .nil) (nd o219 (lf o347) .nil)) (nd o123 (nd o187 (lf o315) .nil) (nd o251 (lf o379) .nil)))))) (nd (boot_o_5 P) (nd (boot_o_9 P) (nd o17 (nd o33 (nd o65 (nd o129 (lf o257) .nil) (nd o193 (lf o321) .nil)) (nd o97 (nd o161 (lf o289) .nil) (nd o225 (lf o353) .nil))) (nd o49 (nd o81 (nd (o145 P) (lf o273) .nil) (nd o209 (lf o337) .nil)) (nd (o113 P) (nd o177 (lf o305) .nil) (nd o241 (lf o369) .nil)))) (nd o25 (nd o41 (nd o73 (nd o137 (lf o265) .nil) (nd o201 (lf o329) .nil)) (nd o105 (nd o169 (lf o297) .nil) (nd o233 (lf o361) .nil))) (nd o57 (nd o89 (nd o153 (lf o281) .nil) (nd o217 (lf o345) .nil)) (nd o121 (nd o185 (lf o313) .nil) (nd o249 (lf o377) .nil))))) (nd o13 (nd o21 (nd (o37 P) (nd (o69 P) (nd o133 (lf o261) .nil) (nd o197 (lf o325) .nil)) (nd o101 (nd o165 (lf o293) .nil) (nd o229 (lf o357) .nil))) (nd o53 (nd o85 (nd o149 (lf o277) .nil) (nd (o213 P) (lf o341) .nil)) (nd o117 (nd o181 (lf o309) .nil) (nd o245 (lf o373) .nil)))) (nd o29 (nd o45 (nd o77 (nd o141 (lf o269) .nil) (nd o205 (lf o333) .nil)) (nd o109 (nd o173 (lf o301) .nil) (nd o237 (lf o365) .nil))) (nd o61 (nd o93 (nd o157 (lf o285) .nil) (nd o221 (lf o349) .nil)) (nd o125 (nd o189 (lf o317) .nil) (nd o253 (lf (o381 P)) .nil))))))) (nd (boot_o_2 P) (nd (boot_o_4 P) (nd (boot_o_8 P) (nd o16 (nd o32 (nd o64 (nd o128 (lf o256) .nil) (nd o192 (lf o320) .nil)) (nd o96 (nd o160 (lf o288) .nil) (nd (o224 P) (lf o352) .nil))) (nd o48 (nd o80 (nd o144 (lf o272) .nil) (nd (o208 P) (lf o336) .nil)) (nd o112 (nd (o176 P) (lf o304) .nil) (nd o240 (lf o368) .nil)))) (nd (o24 P) (nd o40 (nd o72 (nd o136 (lf o264) .nil) (nd o200 (lf o328) .nil)) (nd o104 (nd o168 (lf o296) .nil) (nd o232 (lf o360) .nil))) (nd (o56 P) (nd (o88 P) (nd o152 (lf o280) .nil) (nd o216 (lf o344) .nil)) (nd o120 (nd o184 (lf o312) .nil) (nd o248 (lf o376) .nil))))) (nd o12_2 (nd o20 (nd o36 (nd o68 (nd (o132 P) (lf o260) .nil) (nd o196 (lf o324) .nil)) (nd o100 (nd (o164 P) (lf o292) .nil) (nd o228 (lf o356) .nil))) (nd o52 (nd o84 (nd o148 (lf o276) .nil) (nd o212 (lf o340) .nil)) (nd o116 (nd o180 (lf o308) .nil) (nd (o244 P) (lf o372) .nil)))) (nd o28 (nd o44 (nd o76 (nd o140 (lf o268) .nil) (nd o204 (lf o332) .nil)) (nd o108 (nd o172 (lf o300) .nil) (nd o236 (lf o364) .nil))) (nd o60 (nd o92 (nd o156 (lf o284) .nil) (nd o220 (lf o348) .nil)) (nd o124 (nd o188 (lf o316) .nil) (nd o252 (lf o380) .nil)))))) (nd (boot_o_6 P) (nd (boot_o_10 P) (nd o18 (nd o34 (nd o66 (nd o130 (lf o258) .nil) (nd o194 (lf o322) .nil)) (nd o98 (nd o162 (lf o290) .nil) (nd o226 (lf o354) .nil))) (nd (o50 P) (nd o82 (nd o146 (lf o274) .nil) (nd o210 (lf o338) .nil)) (nd o114 (nd o178 (lf o306) .nil) (nd o242 (lf o370) .nil)))) (nd o26 (nd o42 (nd o74 (nd o138 (lf o266) .nil) (nd o202 (lf o330) .nil)) (nd o106 (nd (o170 P) (lf o298) .nil) (nd (o234 P) (lf o362) .nil))) (nd o58 (nd o90 (nd o154 (lf o282) .nil) (nd o218 (lf o346) .nil)) (nd o122 (nd o186 (lf o314) .nil) (nd o250 (lf o378) .nil))))) (nd o14 (nd o22 (nd o38 (nd o70 (nd o134 (lf o262) .nil) (nd o198 (lf o326) .nil)) (nd o102 (nd o166 (lf o294) .nil) (nd o230 (lf (o358 P)) .nil))) (nd o54 (nd o86 (nd o150 (lf o278) .nil) (nd o214 (lf o342) .nil)) (nd o118 (nd o182 (lf o310) .nil) (nd o246 (lf o374) .nil)))) (nd (o30 P) (nd o46 (nd o78 (nd o142 (lf o270) .nil) (nd o206 (lf o334) .nil)) (nd o110 (nd o174 (lf o302) .nil) (nd o238 (lf o366) .nil))) (nd o62 (nd (o94 P) (nd o158 (lf o286) .nil) (nd o222 (lf o350) .nil)) (nd (o126 P) (nd o190 (lf o318) .nil) (lf (o254 P))))))))
def S3 (w : World) (os : OsState) : SharedT := ⟨T3 w.params, 382, (boot_heap w.params).life, #[], boot_drawn, 719, os⟩
def o3_4 (P : Params) : Obj := di [en P "__name__" 165 (s "law_lapseeds_k08_ends_fit_and_take" 1124), en P "__doc__" 166 Value.none, en P "__package__" 167 Value.none, en P "__loader__" 168 (bi "__main__.__loader__#opaque"), en P "__spec__" 169 Value.none, en P "__annotations__" 170 (r 6), en P "__builtins__" 171 (r 4), en P "__file__" 173 (s "/claim/cut.py" 172), en P "__cached__" 174 Value.none, en P "_wall" 193 (r 21), en P "LapError" 213 (r 31), en P "BadHeld" 238 (r 51), en P "BadRing" 263 (r 70), en P "BadPlayer" 288 (r 89), en P "BadPit" 313 (r 108), en P "BadEnd" 338 (r 127), en P "BadNumber" 363 (r 146), en P "BadText" 390 (r 165), en P "Unlike" 406 (r 177), en P "FIGURES" 410 (s "0123456789" 409), en P "is_whole" 417 (r 186), en P "is_between" 426 (r 193), en P "number_in" 432 (r 198), en P "MOST_NUMBER" 436 (Value.int 3 435), en P "bound_of" 445 (r 205), en P "Held" 668 (r 359), en P "held_of" 674 (r 368), en P "told_held" 680 (r 373), en P "need_seeds" 690 (r 380), en P "LEAST_SIZE" 694 (Value.int 2 693), en P "MOST_SIZE" 696 (Value.int 6 695), en P "SIGNS" 698 (s "abABo" 697), en P "PITS" 700 (s "ab" 699), en P "STORES" 702 (s "AB" 701), en P "EXCHANGED" 718 (r 381), en P "are_signs" 724 (r 386), en P "need_player" 731 (r 393), en P "Ring" 863 (r 489), en P "PLACES" 872 (r 494), en P "OPEN" 874 (s "o" 873), en P "End" 982 (r 561), en P "Quiet" 1000 (r 575), en P "Again" 1019 (r 587), en P "Take" 1049 (r 608), en P "Across" 1089 (r 637), en P "TakeAgain" 1107 (r 649), en P "made_end" 1113 (r 656), en P "told_end" 1123 (r 663), en P "_law_pen" 1132 (r 670), en P "_law_draw" 1145 (r 677), en P "_law_pick" 1153 (r 684), en P "_law_numbers" 1159 (r 689), en P "_law_held" 1168 (r 696)] 53
def o12_4 : Obj := fi [(i 1), (i 0), (r 20), (i 5), (i 0), (r 27), (i 7), (i 0), (r 40), (i 11), (i 0), (r 59), (i 15), (i 0), (r 78), (i 19), (i 0), (r 97), (i 23), (i 0), (r 116), (i 27), (i 0), (r 135), (i 31), (i 0), (r 154), (i 36), (i 0), (r 173), (i 40), (i 0), (r 185), (i 42), (i 0), (r 192), (i 44), (i 0), (r 197), (i 50), (i 0), (r 204), (i 55), (i 0), (r 211), (i 149), (i 0), (r 367), (i 153), (i 0), (r 372), (i 167), (i 0), (r 379), (i 177), (i 0), (r 385), (i 182), (i 0), (r 392), (i 185), (i 0), (r 399), (i 242), (i 0), (r 500), (i 297), (i 0), (r 571), (i 299), (i 0), (r 583), (i 302), (i 0), (r 596), (i 309), (i 0), (r 617), (i 321), (i 0), (r 645), (i 323), (i 0), (r 655), (i 336), (i 0), (r 662), (i 344), (i 0), (r 669), (i 346), (i 0), (r 676), (i 363), (i 0), (r 683), (i 365), (i 0), (r 688), (i 367), (i 0), (r 695)]
def o382 : Obj := tu []
def o383 : Obj := fi []
def o384 : Obj := fu Value.none "are_signs" "are_signs" d36 0 [] Value.none Value.none Value.none Value.none none Value.none Value.none 0
def o385 : Obj := fo "code" [(s "are_signs" 719), (s "are_signs" 720), (s "/claim/cut.py" 721), (i 177), (i 1), (i 0), (i 0), (i 3), (r 382), (Value.bool true), (i 181), (r 383), Value.none, Value.none, Value.none, (r 384), (i 722), (i 177), (s "/claim/cut.py" 723)]
def o386 : Obj := fu (ty "function") "are_signs" "are_signs" d36 3 [] Value.none Value.none Value.none (s "lapseeds.rings" 691) none (r 385) Value.none 0
def o387 : Obj := tu []
def o388 : Obj := fi []
def o389 : Obj := tu [(s "player" 728)]
def o390 : Obj := tu []
def o391 : Obj := fu Value.none "need_player" "need_player" d37 0 [] Value.none Value.none Value.none Value.none none Value.none Value.none 0
def o392 : Obj := fo "code" [(s "need_player" 725), (s "need_player" 726), (s "/claim/cut.py" 727), (i 182), (i 1), (i 0), (i 0), (i 3), (r 387), (Value.bool true), (i 181), (r 388), Value.none, (r 389), (r 390), (r 391), (i 729), (i 182), (s "/claim/cut.py" 730)]
def o393 : Obj := fu (ty "function") "need_player" "need_player" d37 3 [] Value.none Value.none Value.none (s "lapseeds.rings" 691) none (r 392) Value.none 0
def o394 : Obj := tu []
def o395 : Obj := fo "builtin_function_or_method" [(bi "type.__prepare__"), (ty "type")]
def o396 (P : Params) : Obj := di [en P "__module__" 739 (s "lapseeds.rings" 691), en P "__qualname__" 741 (s "Ring" 740), en P "__firstlineno__" 743 (Value.int 185 742), en P "MOST" 745 (Value.int 6 744), en P "__init__" 754 (r 408), en P "read" 776 (r 417), en P "need_pit" 784 (r 425), en P "player_of" 792 (r 432), en P "store_of" 800 (r 439), en P "opposite" 808 (r 446), en P "pits_of" 816 (r 453), en P "turned" 824 (r 460), en P "__invert__" 830 (r 465), en P "__len__" 837 (r 472), en P "__eq__" 845 (r 479), en P "__str__" 852 (r 486), en P "__static_attributes__" 855 (r 487)] 17
def o397 : Obj := tu []
def o398 : Obj := fi [(i 188), (i 4), (r 407), (i 197), (i 4), (r 414), (i 206), (i 4), (r 424), (i 210), (i 4), (r 431), (i 214), (i 4), (r 438), (i 218), (i 4), (r 445), (i 222), (i 4), (r 452), (i 225), (i 4), (r 459), (i 228), (i 4), (r 464), (i 231), (i 4), (r 471), (i 234), (i 4), (r 478), (i 237), (i 4), (r 485)]
def o399 : Obj := fo "code" [(s "Ring" 734), (s "Ring" 735), (s "/claim/cut.py" 736), (i 185), (i 0), (i 0), (i 0), (i 0), (r 397), (Value.bool false), (i 181), (r 398), Value.none, Value.none, Value.none, Value.none, (i 737), (i 185), (s "/claim/cut.py" 738)]
def o400 : Obj := (Obj.mk (ty "frame") none Data.plain #[(some (r 399)), (some (r 3)), (some (r 396)), none, (some (s "lapseeds.rings" 691)), none, (some (r 0))])
def o401 : Obj := tu [Value.none]
def o402 : Obj := tu []
def o403 : Obj := fi []
def o404 : Obj := tu [(s "self" 749), (s "signs" 750), (s "across" 751)]
def o405 : Obj := tu []
def o406 : Obj := fu Value.none "__init__" "Ring.__init__" d38 0 [] Value.none Value.none Value.none Value.none none Value.none Value.none 0
def o407 : Obj := fo "code" [(s "__init__" 746), (s "Ring.__init__" 747), (s "/claim/cut.py" 748), (i 188), (i 3), (i 0), (i 0), (i 3), (r 402), (Value.bool true), (i 181), (r 403), Value.none, (r 404), (r 405), (r 406), (i 752), (i 188), (s "/claim/cut.py" 753)]
def o408 : Obj := fu (ty "function") "__init__" "Ring.__init__" d38 3 [] (r 401) Value.none Value.none (s "lapseeds.rings" 691) none (r 407) Value.none 0
def o409 : Obj := tu []
def o410 : Obj := fi []
def o411 : Obj := tu [(s "cls" 758), (s "text" 759), (s "words" 760), (s "across" 761)]
def o412 : Obj := tu []
def o413 : Obj := fu Value.none "read" "Ring.read" d39 0 [] Value.none Value.none Value.none Value.none none Value.none Value.none 0
def o414 : Obj := fo "code" [(s "read" 755), (s "Ring.read" 756), (s "/claim/cut.py" 757), (i 196), (i 2), (i 0), (i 0), (i 3), (r 409), (Value.bool true), (i 181), (r 410), Value.none, (r 411), (r 412), (r 413), (i 762), (i 196), (s "/claim/cut.py" 763)]
def o415 : Obj := fu (ty "function") "read" "Ring.read" d39 3 [] Value.none Value.none Value.none (s "lapseeds.rings" 691) (some 418) (r 414) Value.none 0
def o416 (P : Params) : Obj := di [en P "__module__" 765 (s "lapseeds.rings" 691), en P "__name__" 768 (s "read" 767), en P "__qualname__" 771 (s "Ring.read" 770), en P "__doc__" 773 Value.none, en P "__annotations__" 775 (r 418)] 5
def o417 : Obj := (Obj.mk (ty "classmethod") (some 416) (Data.fields #[(r 415), (Value.bool false)]) #[])
def o418 : Obj := di [] 0
def o419 : Obj := tu []
def o420 : Obj := fi []
def o421 : Obj := tu [(s "self" 780), (s "pit" 781)]
def o422 : Obj := tu []
def o423 : Obj := fu Value.none "need_pit" "Ring.need_pit" d40 0 [] Value.none Value.none Value.none Value.none none Value.none Value.none 0
def o424 : Obj := fo "code" [(s "need_pit" 777), (s "Ring.need_pit" 778), (s "/claim/cut.py" 779), (i 206), (i 2), (i 0), (i 0), (i 3), (r 419), (Value.bool true), (i 181), (r 420), Value.none, (r 421), (r 422), (r 423), (i 782), (i 206), (s "/claim/cut.py" 783)]
def o425 : Obj := fu (ty "function") "need_pit" "Ring.need_pit" d40 3 [] Value.none Value.none Value.none (s "lapseeds.rings" 691) none (r 424) Value.none 0
def o426 : Obj := tu []
def o427 : Obj := fi []
def o428 : Obj := tu [(s "self" 788), (s "pit" 789)]
def o429 : Obj := tu []
def o430 : Obj := fu Value.none "player_of" "Ring.player_of" d41 0 [] Value.none Value.none Value.none Value.none none Value.none Value.none 0
def o431 : Obj := fo "code" [(s "player_of" 785), (s "Ring.player_of" 786), (s "/claim/cut.py" 787), (i 210), (i 2), (i 0), (i 0), (i 3), (r 426), (Value.bool true), (i 181), (r 427), Value.none, (r 428), (r 429), (r 430), (i 790), (i 210), (s "/claim/cut.py" 791)]
def o432 : Obj := fu (ty "function") "player_of" "Ring.player_of" d41 3 [] Value.none Value.none Value.none (s "lapseeds.rings" 691) none (r 431) Value.none 0
def o433 : Obj := tu []
def o434 : Obj := fi []
def o435 : Obj := tu [(s "self" 796), (s "player" 797)]
def o436 : Obj := tu []
def o437 : Obj := fu Value.none "store_of" "Ring.store_of" d42 0 [] Value.none Value.none Value.none Value.none none Value.none Value.none 0
def o438 : Obj := fo "code" [(s "store_of" 793), (s "Ring.store_of" 794), (s "/claim/cut.py" 795), (i 214), (i 2), (i 0), (i 0), (i 3), (r 433), (Value.bool true), (i 181), (r 434), Value.none, (r 435), (r 436), (r 437), (i 798), (i 214), (s "/claim/cut.py" 799)]
def o439 : Obj := fu (ty "function") "store_of" "Ring.store_of" d42 3 [] Value.none Value.none Value.none (s "lapseeds.rings" 691) none (r 438) Value.none 0
def o440 : Obj := tu []
def o441 : Obj := fi []
def o442 : Obj := tu [(s "self" 804), (s "pit" 805)]
def o443 : Obj := tu []
def o444 : Obj := fu Value.none "opposite" "Ring.opposite" d43 0 [] Value.none Value.none Value.none Value.none none Value.none Value.none 0
def o445 : Obj := fo "code" [(s "opposite" 801), (s "Ring.opposite" 802), (s "/claim/cut.py" 803), (i 218), (i 2), (i 0), (i 0), (i 3), (r 440), (Value.bool true), (i 181), (r 441), Value.none, (r 442), (r 443), (r 444), (i 806), (i 218), (s "/claim/cut.py" 807)]
def o446 : Obj := fu (ty "function") "opposite" "Ring.opposite" d43 3 [] Value.none Value.none Value.none (s "lapseeds.rings" 691) none (r 445) Value.none 0
def o447 : Obj := tu []
def o448 : Obj := fi []
def o449 : Obj := tu [(s "self" 812), (s "player" 813)]
def o450 : Obj := tu []
def o451 : Obj := fu Value.none "pits_of" "Ring.pits_of" d44 0 [] Value.none Value.none Value.none Value.none none Value.none Value.none 0
def o452 : Obj := fo "code" [(s "pits_of" 809), (s "Ring.pits_of" 810), (s "/claim/cut.py" 811), (i 222), (i 2), (i 0), (i 0), (i 3), (r 447), (Value.bool true), (i 181), (r 448), Value.none, (r 449), (r 450), (r 451), (i 814), (i 222), (s "/claim/cut.py" 815)]
def o453 : Obj := fu (ty "function") "pits_of" "Ring.pits_of" d44 3 [] Value.none Value.none Value.none (s "lapseeds.rings" 691) none (r 452) Value.none 0
def o454 : Obj := tu []
def o455 : Obj := fi []
def o456 : Obj := tu [(s "self" 820), (s "k" 821)]
def o457 : Obj := tu []
def o458 : Obj := fu Value.none "turned" "Ring.turned" d45 0 [] Value.none Value.none Value.none Value.none none Value.none Value.none 0
def o459 : Obj := fo "code" [(s "turned" 817), (s "Ring.turned" 818), (s "/claim/cut.py" 819), (i 225), (i 2), (i 0), (i 0), (i 3), (r 454), (Value.bool true), (i 181), (r 455), Value.none, (r 456), (r 457), (r 458), (i 822), (i 225), (s "/claim/cut.py" 823)]
def o460 : Obj := fu (ty "function") "turned" "Ring.turned" d45 3 [] Value.none Value.none Value.none (s "lapseeds.rings" 691) none (r 459) Value.none 0
def o461 : Obj := tu []
def o462 : Obj := fi []
def o463 : Obj := fu Value.none "__invert__" "Ring.__invert__" d46 0 [] Value.none Value.none Value.none Value.none none Value.none Value.none 0
def o464 : Obj := fo "code" [(s "__invert__" 825), (s "Ring.__invert__" 826), (s "/claim/cut.py" 827), (i 228), (i 1), (i 0), (i 0), (i 3), (r 461), (Value.bool true), (i 181), (r 462), Value.none, Value.none, Value.none, (r 463), (i 828), (i 228), (s "/claim/cut.py" 829)]
def o465 : Obj := fu (ty "function") "__invert__" "Ring.__invert__" d46 3 [] Value.none Value.none Value.none (s "lapseeds.rings" 691) none (r 464) Value.none 0
def o466 : Obj := tu []
def o467 : Obj := fi []
def o468 : Obj := tu [(s "self" 834)]
def o469 : Obj := tu []
def o470 : Obj := fu Value.none "__len__" "Ring.__len__" d47 0 [] Value.none Value.none Value.none Value.none none Value.none Value.none 0
def o471 : Obj := fo "code" [(s "__len__" 831), (s "Ring.__len__" 832), (s "/claim/cut.py" 833), (i 231), (i 1), (i 0), (i 0), (i 3), (r 466), (Value.bool true), (i 181), (r 467), Value.none, (r 468), (r 469), (r 470), (i 835), (i 231), (s "/claim/cut.py" 836)]
def o472 : Obj := fu (ty "function") "__len__" "Ring.__len__" d47 3 [] Value.none Value.none Value.none (s "lapseeds.rings" 691) none (r 471) Value.none 0
def o473 : Obj := tu []
def o474 : Obj := fi []
def o475 : Obj := tu [(s "self" 841), (s "other" 842)]
def o476 : Obj := tu []
def o477 : Obj := fu Value.none "__eq__" "Ring.__eq__" d48 0 [] Value.none Value.none Value.none Value.none none Value.none Value.none 0
def o478 : Obj := fo "code" [(s "__eq__" 838), (s "Ring.__eq__" 839), (s "/claim/cut.py" 840), (i 234), (i 2), (i 0), (i 0), (i 3), (r 473), (Value.bool true), (i 181), (r 474), Value.none, (r 475), (r 476), (r 477), (i 843), (i 234), (s "/claim/cut.py" 844)]
def o479 : Obj := fu (ty "function") "__eq__" "Ring.__eq__" d48 3 [] Value.none Value.none Value.none (s "lapseeds.rings" 691) none (r 478) Value.none 0
def o480 : Obj := tu []
def o481 : Obj := fi []
def o482 : Obj := tu [(s "self" 849)]
def o483 : Obj := tu []
def o484 : Obj := fu Value.none "__str__" "Ring.__str__" d49 0 [] Value.none Value.none Value.none Value.none none Value.none Value.none 0
def o485 : Obj := fo "code" [(s "__str__" 846), (s "Ring.__str__" 847), (s "/claim/cut.py" 848), (i 237), (i 1), (i 0), (i 0), (i 3), (r 480), (Value.bool true), (i 181), (r 481), Value.none, (r 482), (r 483), (r 484), (i 850), (i 237), (s "/claim/cut.py" 851)]
def o486 : Obj := fu (ty "function") "__str__" "Ring.__str__" d49 3 [] Value.none Value.none Value.none (s "lapseeds.rings" 691) none (r 485) Value.none 0
def o487 : Obj := tu [(s "across" 853), (s "signs" 854)]
def o488 (P : Params) : Obj := di [en P "__module__" 739 (s "lapseeds.rings" 691), en P "__firstlineno__" 743 (Value.int 185 742), en P "MOST" 745 (Value.int 6 744), en P "__init__" 754 (r 408), en P "read" 776 (r 417), en P "need_pit" 784 (r 425), en P "player_of" 792 (r 432), en P "store_of" 800 (r 439), en P "opposite" 808 (r 446), en P "pits_of" 816 (r 453), en P "turned" 824 (r 460), en P "__invert__" 830 (r 465), en P "__len__" 837 (r 472), en P "__eq__" 845 (r 479), en P "__str__" 852 (r 486), en P "__static_attributes__" 855 (r 487), en P "__dict__" 857 (r 490), en P "__weakref__" 859 (r 491), en P "__doc__" 860 Value.none, en P "__hash__" 861 Value.none] 5
def o489 : Obj := (Obj.mk (ty "type") none (Data.cls (ClassData.mk "Ring" [(ty "object")] [(r 489), (ty "object")] 488 "Ring" true [] [] false none false)) #[none, none, (some (s "Ring" 732)), (some (s "Ring" 740)), (some (bi "object.__new__")), (some (Value.bool true))])
def o490 : Obj := fo "getset_descriptor" [(s "__dict__" 856), (r 489), (bi "function.__dict__"), (bi "function.__dict__#set")]
def o491 : Obj := fo "getset_descriptor" [(s "__weakref__" 858), (r 489), (bi "ExceptionGroup.__weakref__"), Value.none]
def o492 : Obj := fo "super" [(r 489), (r 489), (r 489)]
def o493 : Obj := fo "builtin_function_or_method" [(bi "object.__init_subclass__"), (r 489)]
def o494 : Obj := tu [(s "own" 866), (s "other" 867), (s "store" 868), (s "theirs" 869), (s "open" 870), (s "any" 871)]
def o495 : Obj := tu []
def o496 : Obj := fo "builtin_function_or_method" [(bi "type.__prepare__"), (ty "type")]
def o497 (P : Params) : Obj := di [en P "__module__" 882 (s "lapseeds.ends" 864), en P "__qualname__" 884 (s "End" 883), en P "__firstlineno__" 886 (Value.int 242 885), en P "WORD" 888 (s "end" 887), en P "is_take" 889 (Value.bool false), en P "is_again" 890 (Value.bool false), en P "__init__" 899 (r 508), en P "read" 920 (r 517), en P "is_at" 926 (r 523), en P "fits" 939 (r 530), en P "pits_taken" 948 (r 537), en P "told_parts" 955 (r 544), en P "__eq__" 963 (r 551), en P "__str__" 970 (r 558), en P "__static_attributes__" 974 (r 559)] 15
def o498 : Obj := tu []
def o499 : Obj := fi [(i 247), (i 4), (r 507), (i 257), (i 4), (r 514), (i 263), (i 4), (r 522), (i 279), (i 4), (r 529), (i 285), (i 4), (r 536), (i 289), (i 4), (r 543), (i 292), (i 4), (r 550), (i 295), (i 4), (r 557)]
def o500 : Obj := fo "code" [(s "End" 877), (s "End" 878), (s "/claim/cut.py" 879), (i 242), (i 0), (i 0), (i 0), (i 0), (r 498), (Value.bool false), (i 181), (r 499), Value.none, Value.none, Value.none, Value.none, (i 880), (i 242), (s "/claim/cut.py" 881)]
def o501 : Obj := (Obj.mk (ty "frame") none Data.plain #[(some (r 500)), (some (r 3)), (some (r 497)), none, (some (s "lapseeds.ends" 864)), none, (some (r 0))])
def o502 : Obj := tu []
def o503 : Obj := fi []
def o504 : Obj := tu [(s "self" 894), (s "where" 895), (s "held" 896)]
def o505 : Obj := tu []
def o506 : Obj := fu Value.none "__init__" "End.__init__" d50 0 [] Value.none Value.none Value.none Value.none none Value.none Value.none 0
def o507 : Obj := fo "code" [(s "__init__" 891), (s "End.__init__" 892), (s "/claim/cut.py" 893), (i 247), (i 3), (i 0), (i 0), (i 3), (r 502), (Value.bool true), (i 181), (r 503), Value.none, (r 504), (r 505), (r 506), (i 897), (i 247), (s "/claim/cut.py" 898)]
def o508 : Obj := fu (ty "function") "__init__" "End.__init__" d50 3 [] Value.none Value.none Value.none (s "lapseeds.ends" 864) none (r 507) Value.none 0
def o509 : Obj := tu []
def o510 : Obj := fi []
def o511 : Obj := tu [(s "cls" 903), (s "text" 904), (s "found" 905)]
def o512 : Obj := tu []
def o513 : Obj := fu Value.none "read" "End.read" d51 0 [] Value.none Value.none Value.none Value.none none Value.none Value.none 0
def o514 : Obj := fo "code" [(s "read" 900), (s "End.read" 901), (s "/claim/cut.py" 902), (i 256), (i 2), (i 0), (i 0), (i 3), (r 509), (Value.bool true), (i 181), (r 510), Value.none, (r 511), (r 512), (r 513), (i 906), (i 256), (s "/claim/cut.py" 907)]
def o515 : Obj := fu (ty "function") "read" "End.read" d51 3 [] Value.none Value.none Value.none (s "lapseeds.ends" 864) (some 518) (r 514) Value.none 0
def o516 (P : Params) : Obj := di [en P "__module__" 909 (s "lapseeds.ends" 864), en P "__name__" 912 (s "read" 911), en P "__qualname__" 915 (s "End.read" 914), en P "__doc__" 917 Value.none, en P "__annotations__" 919 (r 518)] 5
def o517 : Obj := (Obj.mk (ty "classmethod") (some 516) (Data.fields #[(r 515), (Value.bool false)]) #[])
def o518 : Obj := di [] 0
def o519 : Obj := tu []
def o520 : Obj := fi []
def o521 : Obj := fu Value.none "is_at" "End.is_at" d52 0 [] Value.none Value.none Value.none Value.none none Value.none Value.none 0
def o522 : Obj := fo "code" [(s "is_at" 921), (s "End.is_at" 922), (s "/claim/cut.py" 923), (i 263), (i 4), (i 0), (i 0), (i 3), (r 519), (Value.bool true), (i 181), (r 520), Value.none, Value.none, Value.none, (r 521), (i 924), (i 263), (s "/claim/cut.py" 925)]
def o523 : Obj := fu (ty "function") "is_at" "End.is_at" d52 3 [] Value.none Value.none Value.none (s "lapseeds.ends" 864) none (r 522) Value.none 0
def o524 : Obj := tu []
def o525 : Obj := fi []
def o526 : Obj := tu [(s "self" 930), (s "ring" 931), (s "player" 932), (s "pit" 933), (s "before" 934), (s "facing" 935), (s "is_there" 936)]
def o527 : Obj := tu []
def o528 : Obj := fu Value.none "fits" "End.fits" d53 0 [] Value.none Value.none Value.none Value.none none Value.none Value.none 0
def o529 : Obj := fo "code" [(s "fits" 927), (s "End.fits" 928), (s "/claim/cut.py" 929), (i 279), (i 6), (i 0), (i 0), (i 3), (r 524), (Value.bool true), (i 181), (r 525), Value.none, (r 526), (r 527), (r 528), (i 937), (i 279), (s "/claim/cut.py" 938)]
def o530 : Obj := fu (ty "function") "fits" "End.fits" d53 3 [] Value.none Value.none Value.none (s "lapseeds.ends" 864) none (r 529) Value.none 0
def o531 : Obj := tu []
def o532 : Obj := fi []
def o533 : Obj := tu [(s "self" 943), (s "ring" 944), (s "pit" 945)]
def o534 : Obj := tu []
def o535 : Obj := fu Value.none "pits_taken" "End.pits_taken" d54 0 [] Value.none Value.none Value.none Value.none none Value.none Value.none 0
def o536 : Obj := fo "code" [(s "pits_taken" 940), (s "End.pits_taken" 941), (s "/claim/cut.py" 942), (i 285), (i 3), (i 0), (i 0), (i 3), (r 531), (Value.bool true), (i 181), (r 532), Value.none, (r 533), (r 534), (r 535), (i 946), (i 285), (s "/claim/cut.py" 947)]
def o537 : Obj := fu (ty "function") "pits_taken" "End.pits_taken" d54 3 [] Value.none Value.none Value.none (s "lapseeds.ends" 864) none (r 536) Value.none 0
def o538 : Obj := tu []
def o539 : Obj := fi []
def o540 : Obj := tu [(s "self" 952)]
def o541 : Obj := tu []
def o542 : Obj := fu Value.none "told_parts" "End.told_parts" d55 0 [] Value.none Value.none Value.none Value.none none Value.none Value.none 0
def o543 : Obj := fo "code" [(s "told_parts" 949), (s "End.told_parts" 950), (s "/claim/cut.py" 951), (i 289), (i 1), (i 0), (i 0), (i 3), (r 538), (Value.bool true), (i 181), (r 539), Value.none, (r 540), (r 541), (r 542), (i 953), (i 289), (s "/claim/cut.py" 954)]
def o544 : Obj := fu (ty "function") "told_parts" "End.told_parts" d55 3 [] Value.none Value.none Value.none (s "lapseeds.ends" 864) none (r 543) Value.none 0
def o545 : Obj := tu []
def o546 : Obj := fi []
def o547 : Obj := tu [(s "self" 959), (s "other" 960)]
def o548 : Obj := tu []
def o549 : Obj := fu Value.none "__eq__" "End.__eq__" d56 0 [] Value.none Value.none Value.none Value.none none Value.none Value.none 0
def o550 : Obj := fo "code" [(s "__eq__" 956), (s "End.__eq__" 957), (s "/claim/cut.py" 958), (i 292), (i 2), (i 0), (i 0), (i 3), (r 545), (Value.bool true), (i 181), (r 546), Value.none, (r 547), (r 548), (r 549), (i 961), (i 292), (s "/claim/cut.py" 962)]
def o551 : Obj := fu (ty "function") "__eq__" "End.__eq__" d56 3 [] Value.none Value.none Value.none (s "lapseeds.ends" 864) none (r 550) Value.none 0
def o552 : Obj := tu []
def o553 : Obj := fi []
def o554 : Obj := tu [(s "self" 967)]
def o555 : Obj := tu []
def o556 : Obj := fu Value.none "__str__" "End.__str__" d57 0 [] Value.none Value.none Value.none Value.none none Value.none Value.none 0
def o557 : Obj := fo "code" [(s "__str__" 964), (s "End.__str__" 965), (s "/claim/cut.py" 966), (i 295), (i 1), (i 0), (i 0), (i 3), (r 552), (Value.bool true), (i 181), (r 553), Value.none, (r 554), (r 555), (r 556), (i 968), (i 295), (s "/claim/cut.py" 969)]
def o558 : Obj := fu (ty "function") "__str__" "End.__str__" d57 3 [] Value.none Value.none Value.none (s "lapseeds.ends" 864) none (r 557) Value.none 0
def o559 : Obj := tu [(s "full" 971), (s "held" 972), (s "where" 973)]
def o560 (P : Params) : Obj := di [en P "__module__" 882 (s "lapseeds.ends" 864), en P "__firstlineno__" 886 (Value.int 242 885), en P "WORD" 888 (s "end" 887), en P "is_take" 889 (Value.bool false), en P "is_again" 890 (Value.bool false), en P "__init__" 899 (r 508), en P "read" 920 (r 517), en P "is_at" 926 (r 523), en P "fits" 939 (r 530), en P "pits_taken" 948 (r 537), en P "told_parts" 955 (r 544), en P "__eq__" 963 (r 551), en P "__str__" 970 (r 558), en P "__static_attributes__" 974 (r 559), en P "__dict__" 976 (r 562), en P "__weakref__" 978 (r 563), en P "__doc__" 979 Value.none, en P "__hash__" 980 Value.none] 5
def o561 : Obj := (Obj.mk (ty "type") none (Data.cls (ClassData.mk "End" [(ty "object")] [(r 561), (ty "object")] 560 "End" true [] [(r 575), (r 587), (r 608)] false none false)) #[none, none, (some (s "End" 875)), (some (s "End" 883)), (some (bi "object.__new__")), (some (Value.bool true))])
def o562 : Obj := fo "getset_descriptor" [(s "__dict__" 975), (r 561), (bi "function.__dict__"), (bi "function.__dict__#set")]
def o563 : Obj := fo "getset_descriptor" [(s "__weakref__" 977), (r 561), (bi "ExceptionGroup.__weakref__"), Value.none]
def o564 : Obj := fo "super" [(r 561), (r 561), (r 561)]
def o565 : Obj := fo "builtin_function_or_method" [(bi "object.__init_subclass__"), (r 561)]
def o566 : Obj := tu [(r 561)]
def o567 : Obj := fo "builtin_function_or_method" [(bi "type.__prepare__"), (ty "type")]
def o568 (P : Params) : Obj := di [en P "__module__" 990 (s "lapseeds.ends" 864), en P "__qualname__" 992 (s "Quiet" 991), en P "__firstlineno__" 994 (Value.int 297 993), en P "WORD" 996 (s "quiet" 995), en P "__static_attributes__" 997 (r 573)] 5
def o569 : Obj := tu []
def o570 : Obj := fi []
def o571 : Obj := fo "code" [(s "Quiet" 985), (s "Quiet" 986), (s "/claim/cut.py" 987), (i 297), (i 0), (i 0), (i 0), (i 0), (r 569), (Value.bool false), (i 181), (r 570), Value.none, Value.none, Value.none, Value.none, (i 988), (i 297), (s "/claim/cut.py" 989)]
def o572 : Obj := (Obj.mk (ty "frame") none Data.plain #[(some (r 571)), (some (r 3)), (some (r 568)), none, (some (s "lapseeds.ends" 864)), none, (some (r 0))])
def o573 : Obj := tu []
def o574 (P : Params) : Obj := di [en P "__module__" 990 (s "lapseeds.ends" 864), en P "__firstlineno__" 994 (Value.int 297 993), en P "WORD" 996 (s "quiet" 995), en P "__static_attributes__" 997 (r 573), en P "__doc__" 998 Value.none] 2
def o575 : Obj := (Obj.mk (ty "type") none (Data.cls (ClassData.mk "Quiet" [(r 561)] [(r 575), (r 561), (ty "object")] 574 "Quiet" true [] [] false none false)) #[(some (r 566)), none, (some (s "Quiet" 983)), (some (s "Quiet" 991)), (some (bi "object.__new__")), (some (Value.bool true))])
def o576 : Obj := fo "super" [(r 575), (r 575), (r 575)]
def o577 : Obj := fo "builtin_function_or_method" [(bi "object.__init_subclass__"), (r 575)]
def o578 : Obj := tu [(r 561)]
def o579 : Obj := fo "builtin_function_or_method" [(bi "type.__prepare__"), (ty "type")]
def o580 (P : Params) : Obj := di [en P "__module__" 1008 (s "lapseeds.ends" 864), en P "__qualname__" 1010 (s "Again" 1009), en P "__firstlineno__" 1012 (Value.int 299 1011), en P "WORD" 1014 (s "again" 1013), en P "is_again" 1015 (Value.bool true), en P "__static_attributes__" 1016 (r 585)] 6
def o581 : Obj := tu []
def o582 : Obj := fi []
def o583 : Obj := fo "code" [(s "Again" 1003), (s "Again" 1004), (s "/claim/cut.py" 1005), (i 299), (i 0), (i 0), (i 0), (i 0), (r 581), (Value.bool false), (i 181), (r 582), Value.none, Value.none, Value.none, Value.none, (i 1006), (i 299), (s "/claim/cut.py" 1007)]
def o584 : Obj := (Obj.mk (ty "frame") none Data.plain #[(some (r 583)), (some (r 3)), (some (r 580)), none, (some (s "lapseeds.ends" 864)), none, (some (r 0))])
def o585 : Obj := tu []
def o586 (P : Params) : Obj := di [en P "__module__" 1008 (s "lapseeds.ends" 864), en P "__firstlineno__" 1012 (Value.int 299 1011), en P "WORD" 1014 (s "again" 1013), en P "is_again" 1015 (Value.bool true), en P "__static_attributes__" 1016 (r 585), en P "__doc__" 1017 Value.none] 2
def o587 : Obj := (Obj.mk (ty "type") none (Data.cls (ClassData.mk "Again" [(r 561)] [(r 587), (r 561), (ty "object")] 586 "Again" true [] [(r 649)] false none false)) #[(some (r 578)), none, (some (s "Again" 1001)), (some (s "Again" 1009)), (some (bi "object.__new__")), (some (Value.bool true))])
def o588 : Obj := fo "super" [(r 587), (r 587), (r 587)]
def o589 : Obj := fo "builtin_function_or_method" [(bi "object.__init_subclass__"), (r 587)]
def o590 : Obj := tu [(r 561)]
def o591 : Obj := fo "builtin_function_or_method" [(bi "type.__prepare__"), (ty "type")]
def o592 (P : Params) : Obj := di [en P "__module__" 1027 (s "lapseeds.ends" 864), en P "__qualname__" 1029 (s "Take" 1028), en P "__firstlineno__" 1031 (Value.int 302 1030), en P "WORD" 1033 (s "take" 1032), en P "is_take" 1034 (Value.bool true), en P "pits_taken" 1044 (r 605), en P "__static_attributes__" 1045 (r 606), en P "__classcell__" 1046 (r 593)] 8
def o593 : Obj := (Obj.mk (ty "cell") none (Data.cell (some (r 608))) #[])
def o594 : Obj := tu []
def o595 : Obj := fi [(i 306), (i 4), (r 604)]
def o596 : Obj := fo "code" [(s "Take" 1022), (s "Take" 1023), (s "/claim/cut.py" 1024), (i 302), (i 0), (i 0), (i 0), (i 0), (r 594), (Value.bool false), (i 181), (r 595), Value.none, Value.none, Value.none, Value.none, (i 1025), (i 302), (s "/claim/cut.py" 1026)]
def o597 : Obj := (Obj.mk (ty "frame") none Data.plain #[(some (r 596)), (some (r 3)), (some (r 592)), none, (some (s "lapseeds.ends" 864)), none, (some (r 0))])
def o598 : Obj := tu [(r 593)]
def o599 : Obj := tu [(s "__class__" 1038)]
def o600 : Obj := fi []
def o601 : Obj := tu [(s "self" 1039), (s "ring" 1040), (s "pit" 1041)]
def o602 : Obj := tu []
def o603 : Obj := fu Value.none "pits_taken" "Take.pits_taken" d58 0 [] Value.none Value.none Value.none Value.none none Value.none Value.none 0
def o604 : Obj := fo "code" [(s "pits_taken" 1035), (s "Take.pits_taken" 1036), (s "/claim/cut.py" 1037), (i 306), (i 3), (i 0), (i 0), (i 3), (r 599), (Value.bool true), (i 181), (r 600), Value.none, (r 601), (r 602), (r 603), (i 1042), (i 306), (s "/claim/cut.py" 1043)]
def o605 : Obj := fu (ty "function") "pits_taken" "Take.pits_taken" d58 3 [("__class__", 593)] Value.none Value.none Value.none (s "lapseeds.ends" 864) none (r 604) (r 598) 0
def o606 : Obj := tu []
def o607 (P : Params) : Obj := di [en P "__module__" 1027 (s "lapseeds.ends" 864), en P "__firstlineno__" 1031 (Value.int 302 1030), en P "WORD" 1033 (s "take" 1032), en P "is_take" 1034 (Value.bool true), en P "pits_taken" 1044 (r 605), en P "__static_attributes__" 1045 (r 606), en P "__doc__" 1047 Value.none] 3
def o608 : Obj := (Obj.mk (ty "type") none (Data.cls (ClassData.mk "Take" [(r 561)] [(r 608), (r 561), (ty "object")] 607 "Take" true [] [(r 637), (r 649)] false none false)) #[(some (r 590)), none, (some (s "Take" 1020)), (some (s "Take" 1028)), (some (bi "object.__new__")), (some (Value.bool true))])
def o609 : Obj := fo "super" [(r 608), (r 608), (r 608)]
def o610 : Obj := fo "builtin_function_or_method" [(bi "object.__init_subclass__"), (r 608)]
def o611 : Obj := tu [(r 608)]
def o612 : Obj := fo "builtin_function_or_method" [(bi "type.__prepare__"), (ty "type")]
def o613 (P : Params) : Obj := di [en P "__module__" 1057 (s "lapseeds.ends" 864), en P "__qualname__" 1059 (s "Across" 1058), en P "__firstlineno__" 1061 (Value.int 309 1060), en P "WORD" 1063 (s "across" 1062), en P "__init__" 1074 (r 627), en P "pits_taken" 1083 (r 634), en P "__static_attributes__" 1085 (r 635), en P "__classcell__" 1086 (r 614)] 8
def o614 : Obj := (Obj.mk (ty "cell") none (Data.cell (some (r 637))) #[])
def o615 : Obj := tu []
def o616 : Obj := fi [(i 312), (i 4), (r 626), (i 318), (i 4), (r 633)]
def o617 : Obj := fo "code" [(s "Across" 1052), (s "Across" 1053), (s "/claim/cut.py" 1054), (i 309), (i 0), (i 0), (i 0), (i 0), (r 615), (Value.bool false), (i 181), (r 616), Value.none, Value.none, Value.none, Value.none, (i 1055), (i 309), (s "/claim/cut.py" 1056)]
def o618 : Obj := (Obj.mk (ty "frame") none Data.plain #[(some (r 617)), (some (r 3)), (some (r 613)), none, (some (s "lapseeds.ends" 864)), none, (some (r 0))])
def o619 : Obj := tu [(Value.bool false)]
def o620 : Obj := tu [(r 614)]
def o621 : Obj := tu [(s "__class__" 1067)]
def o622 : Obj := fi []
def o623 : Obj := tu [(s "self" 1068), (s "where" 1069), (s "held" 1070), (s "full" 1071)]
def o624 : Obj := tu []
def o625 : Obj := fu Value.none "__init__" "Across.__init__" d59 0 [] Value.none Value.none Value.none Value.none none Value.none Value.none 0
def o626 : Obj := fo "code" [(s "__init__" 1064), (s "Across.__init__" 1065), (s "/claim/cut.py" 1066), (i 312), (i 4), (i 0), (i 0), (i 3), (r 621), (Value.bool true), (i 181), (r 622), Value.none, (r 623), (r 624), (r 625), (i 1072), (i 312), (s "/claim/cut.py" 1073)]
def o627 : Obj := fu (ty "function") "__init__" "Across.__init__" d59 3 [("__class__", 614)] (r 619) Value.none Value.none (s "lapseeds.ends" 864) none (r 626) (r 620) 0
def o628 : Obj := tu []
def o629 : Obj := fi []
def o630 : Obj := tu [(s "self" 1078), (s "ring" 1079), (s "pit" 1080)]
def o631 : Obj := tu []
def o632 : Obj := fu Value.none "pits_taken" "Across.pits_taken" d60 0 [] Value.none Value.none Value.none Value.none none Value.none Value.none 0
def o633 : Obj := fo "code" [(s "pits_taken" 1075), (s "Across.pits_taken" 1076), (s "/claim/cut.py" 1077), (i 318), (i 3), (i 0), (i 0), (i 3), (r 628), (Value.bool true), (i 181), (r 629), Value.none, (r 630), (r 631), (r 632), (i 1081), (i 318), (s "/claim/cut.py" 1082)]
def o634 : Obj := fu (ty "function") "pits_taken" "Across.pits_taken" d60 3 [] Value.none Value.none Value.none (s "lapseeds.ends" 864) none (r 633) Value.none 0
def o635 : Obj := tu [(s "full" 1084)]
def o636 (P : Params) : Obj := di [en P "__module__" 1057 (s "lapseeds.ends" 864), en P "__firstlineno__" 1061 (Value.int 309 1060), en P "WORD" 1063 (s "across" 1062), en P "__init__" 1074 (r 627), en P "pits_taken" 1083 (r 634), en P "__static_attributes__" 1085 (r 635), en P "__doc__" 1087 Value.none] 3
def o637 : Obj := (Obj.mk (ty "type") none (Data.cls (ClassData.mk "Across" [(r 608)] [(r 637), (r 608), (r 561), (ty "object")] 636 "Across" true [] [] false none false)) #[(some (r 611)), none, (some (s "Across" 1050)), (some (s "Across" 1058)), (some (bi "object.__new__")), (some (Value.bool true))])
def o638 : Obj := fo "super" [(r 637), (r 637), (r 637)]
def o639 : Obj := fo "builtin_function_or_method" [(bi "object.__init_subclass__"), (r 637)]
def o640 : Obj := tu [(r 608), (r 587)]
def o641 : Obj := fo "builtin_function_or_method" [(bi "type.__prepare__"), (ty "type")]
def o642 (P : Params) : Obj := di [en P "__module__" 1097 (s "lapseeds.ends" 864), en P "__qualname__" 1099 (s "TakeAgain" 1098), en P "__firstlineno__" 1101 (Value.int 321 1100), en P "WORD" 1103 (s "takeagain" 1102), en P "__static_attributes__" 1104 (r 647)] 5
def o643 : Obj := tu []
def o644 : Obj := fi []
def o645 : Obj := fo "code" [(s "TakeAgain" 1092), (s "TakeAgain" 1093), (s "/claim/cut.py" 1094), (i 321), (i 0), (i 0), (i 0), (i 0), (r 643), (Value.bool false), (i 181), (r 644), Value.none, Value.none, Value.none, Value.none, (i 1095), (i 321), (s "/claim/cut.py" 1096)]
def o646 : Obj := (Obj.mk (ty "frame") none Data.plain #[(some (r 645)), (some (r 3)), (some (r 642)), none, (some (s "lapseeds.ends" 864)), none, (some (r 0))])
def o647 : Obj := tu []
def o648 (P : Params) : Obj := di [en P "__module__" 1097 (s "lapseeds.ends" 864), en P "__firstlineno__" 1101 (Value.int 321 1100), en P "WORD" 1103 (s "takeagain" 1102), en P "__static_attributes__" 1104 (r 647), en P "__doc__" 1105 Value.none] 2
def o649 : Obj := (Obj.mk (ty "type") none (Data.cls (ClassData.mk "TakeAgain" [(r 608), (r 587)] [(r 649), (r 608), (r 587), (r 561), (ty "object")] 648 "TakeAgain" true [] [] false none false)) #[(some (r 640)), none, (some (s "TakeAgain" 1090)), (some (s "TakeAgain" 1098)), (some (bi "object.__new__")), (some (Value.bool true))])
def o650 : Obj := fo "super" [(r 649), (r 649), (r 649)]
def o651 : Obj := fo "builtin_function_or_method" [(bi "object.__init_subclass__"), (r 649)]
def o652 : Obj := tu []
def o653 : Obj := fi []
def o654 : Obj := fu Value.none "made_end" "made_end" d61 0 [] Value.none Value.none Value.none Value.none none Value.none Value.none 0
def o655 : Obj := fo "code" [(s "made_end" 1108), (s "made_end" 1109), (s "/claim/cut.py" 1110), (i 323), (i 4), (i 0), (i 0), (i 3), (r 652), (Value.bool true), (i 181), (r 653), Value.none, Value.none, Value.none, (r 654), (i 1111), (i 323), (s "/claim/cut.py" 1112)]
def o656 : Obj := fu (ty "function") "made_end" "made_end" d61 3 [] Value.none Value.none Value.none (s "lapseeds.ends" 864) none (r 655) Value.none 0
def o657 : Obj := tu []
def o658 : Obj := fi []
def o659 : Obj := tu [(s "words" 1117), (s "is_full" 1118), (s "rest" 1119), (s "held" 1120)]
def o660 : Obj := tu []
def o661 : Obj := fu Value.none "told_end" "told_end" d62 0 [] Value.none Value.none Value.none Value.none none Value.none Value.none 0
def o662 : Obj := fo "code" [(s "told_end" 1114), (s "told_end" 1115), (s "/claim/cut.py" 1116), (i 336), (i 1), (i 0), (i 0), (i 3), (r 657), (Value.bool true), (i 181), (r 658), Value.none, (r 659), (r 660), (r 661), (i 1121), (i 336), (s "/claim/cut.py" 1122)]
def o663 : Obj := fu (ty "function") "told_end" "told_end" d62 3 [] Value.none Value.none Value.none (s "lapseeds.ends" 864) none (r 662) Value.none 0
def o664 : Obj := tu []
def o665 : Obj := fi []
def o666 : Obj := tu [(s "_law_script" 1129)]
def o667 : Obj := tu []
def o668 : Obj := fu Value.none "_law_pen" "_law_pen" d63 0 [] Value.none Value.none Value.none Value.none none Value.none Value.none 0
def o669 : Obj := fo "code" [(s "_law_pen" 1126), (s "_law_pen" 1127), (s "/claim/cut.py" 1128), (i 344), (i 1), (i 0), (i 0), (i 3), (r 664), (Value.bool true), (i 181), (r 665), Value.none, (r 666), (r 667), (r 668), (i 1130), (i 344), (s "/claim/cut.py" 1131)]
def o670 : Obj := fu (ty "function") "_law_pen" "_law_pen" d63 3 [] Value.none Value.none Value.none (s "law_lapseeds_k08_ends_fit_and_take" 1124) none (r 669) Value.none 0
def o671 : Obj := tu []
def o672 : Obj := fi []
def o673 : Obj := tu [(s "_law_pen_here" 1136), (s "_law_many" 1137), (s "_law_digit" 1138), (s "_law_spot" 1139), (s "_law_cell" 1140), (s "_law_great" 1141), (s "_law_mixed" 1142)]
def o674 : Obj := tu []
def o675 : Obj := fu Value.none "_law_draw" "_law_draw" d64 0 [] Value.none Value.none Value.none Value.none none Value.none Value.none 0
def o676 : Obj := fo "code" [(s "_law_draw" 1133), (s "_law_draw" 1134), (s "/claim/cut.py" 1135), (i 346), (i 2), (i 0), (i 0), (i 3), (r 671), (Value.bool true), (i 181), (r 672), Value.none, (r 673), (r 674), (r 675), (i 1143), (i 346), (s "/claim/cut.py" 1144)]
def o677 : Obj := fu (ty "function") "_law_draw" "_law_draw" d64 3 [] Value.none Value.none Value.none (s "law_lapseeds_k08_ends_fit_and_take" 1124) none (r 676) Value.none 0
def o678 : Obj := tu []
def o679 : Obj := fi []
def o680 : Obj := tu [(s "_law_pen_here" 1149), (s "_law_some" 1150)]
def o681 : Obj := tu []
def o682 : Obj := fu Value.none "_law_pick" "_law_pick" d65 0 [] Value.none Value.none Value.none Value.none none Value.none Value.none 0
def o683 : Obj := fo "code" [(s "_law_pick" 1146), (s "_law_pick" 1147), (s "/claim/cut.py" 1148), (i 363), (i 2), (i 0), (i 0), (i 3), (r 678), (Value.bool true), (i 181), (r 679), Value.none, (r 680), (r 681), (r 682), (i 1151), (i 363), (s "/claim/cut.py" 1152)]
def o684 : Obj := fu (ty "function") "_law_pick" "_law_pick" d65 3 [] Value.none Value.none Value.none (s "law_lapseeds_k08_ends_fit_and_take" 1124) none (r 683) Value.none 0
def o685 : Obj := tu []
def o686 : Obj := fi []
def o687 : Obj := fu Value.none "_law_numbers" "_law_numbers" d66 0 [] Value.none Value.none Value.none Value.none none Value.none Value.none 0
def o688 : Obj := fo "code" [(s "_law_numbers" 1154), (s "_law_numbers" 1155), (s "/claim/cut.py" 1156), (i 365), (i 1), (i 0), (i 0), (i 3), (r 685), (Value.bool true), (i 181), (r 686), Value.none, Value.none, Value.none, (r 687), (i 1157), (i 365), (s "/claim/cut.py" 1158)]
def o689 : Obj := fu (ty "function") "_law_numbers" "_law_numbers" d66 3 [] Value.none Value.none Value.none (s "law_lapseeds_k08_ends_fit_and_take" 1124) none (r 688) Value.none 0
def o690 : Obj := tu []
def o691 : Obj := fi []
def o692 : Obj := tu [(s "_law_told" 1163), (s "_law_found" 1164), (s "_law_n" 1165)]
def o693 : Obj := tu []
def o694 : Obj := fu Value.none "_law_held" "_law_held" d67 0 [] Value.none Value.none Value.none Value.none none Value.none Value.none 0
def o695 : Obj := fo "code" [(s "_law_held" 1160), (s "_law_held" 1161), (s "/claim/cut.py" 1162), (i 367), (i 1), (i 0), (i 0), (i 3), (r 690), (Value.bool true), (i 181), (r 691), Value.none, (r 692), (r 693), (r 694), (i 1166), (i 367), (s "/claim/cut.py" 1167)]
def o696 : Obj := fu (ty "function") "_law_held" "_law_held" d67 3 [] Value.none Value.none Value.none (s "law_lapseeds_k08_ends_fit_and_take" 1124) none (r 695) Value.none 0
def T4 (P : Params) : BT := nd (boot_o_0 P) (nd (boot_o_1 P) (nd (o3_4 P) (nd (boot_o_7 P) (nd o15 (nd o31 (nd o63 (nd o127 (nd o255 (lf o511) .nil) (nd o383 (lf o639) .nil)) (nd o191 (nd o319 (lf o575) .nil) (lf o447))) (nd o95 (nd o159 (nd o287 (lf o543) .nil) (nd o415 (lf o671) .nil)) (nd o223 (nd o351 (lf (o607 P)) .nil) (lf o479)))) (nd o47 (nd o79 (nd o143 (nd o271 (lf o527) .nil) (nd o399 (lf o655) .nil)) (nd o207 (nd o335 (lf o591) .nil) (lf o463))) (nd o111 (nd o175 (nd o303 (lf o559) .nil) (nd o431 (lf o687) .nil)) (nd o239 (nd o367 (lf o623) .nil) (lf o495))))) (nd o23 (nd o39 (nd o71 (nd o135 (nd o263 (lf o519) .nil) (nd o391 (lf o647) .nil)) (nd o199 (nd o327 (lf o583) .nil) (lf o455))) (nd o103 (nd o167 (nd o295 (lf o551) .nil) (nd o423 (lf o679) .nil)) (nd o231 (nd o359 (lf o615) .nil) (lf o487)))) (nd o55 (nd o87 (nd (o151 P) (nd o279 (lf o535) .nil) (nd o407 (lf o663) .nil)) (nd o215 (nd o343 (lf o599) .nil) (lf o471))) (nd o119 (nd o183 (nd o311 (lf o567) .nil) (nd o439 (lf o695) .nil)) (nd o247 (nd o375 (lf o631) .nil) (lf o503)))))) (nd o11 (nd o19 (nd o35 (nd o67 (nd o131 (nd o259 (lf o515) .nil) (nd o387 (lf o643) .nil)) (nd o195 (nd o323 (lf o579) .nil) (lf o451))) (nd o99 (nd o163 (nd o291 (lf o547) .nil) (nd o419 (lf o675) .nil)) (nd o227 (nd o355 (lf o611) .nil) (lf o483)))) (nd o51 (nd o83 (nd o147 (nd o275 (lf o531) .nil) (nd o403 (lf o659) .nil)) (nd o211 (nd o339 (lf o595) .nil) (lf o467))) (nd o115 (nd o179 (nd o307 (lf o563) .nil) (nd o435 (lf o691) .nil)) (nd o243 (nd o371 (lf o627) .nil) (lf o499))))) (nd o27 (nd o43 (nd (o75 P) (nd o139 (nd o267 (lf o523) .nil) (nd o395 (lf o651) .nil)) (nd o203 (nd o331 (lf o587) .nil) (lf o459))) (nd (o107 P) (nd o171 (nd o299 (lf o555) .nil) (nd o427 (lf o683) .nil)) (nd o235 (nd o363 (lf o619) .nil) (lf o491)))) (nd o59 (nd o91 (nd o155 (nd o283 (lf o539) .nil) (nd o411 (lf o667) .nil)) (nd o219 (nd o347 (lf o603) .nil) (lf o475))) (nd o123 (nd o187 (nd o315 (lf o571) .nil) (lf o443)) (nd o251 (nd o379 (lf o635) .nil) (lf o507))))))) (nd (boot_o_5 P) (nd (boot_o_9 P) (nd o17 (nd o33 (nd o65 (nd o129 (nd o257 (lf o513) .nil) (nd o385 (lf o641) .nil)) (nd o193 (nd o321 (lf o577) .nil) (lf o449))) (nd o97 (nd o161 (nd o289 (lf o545) .nil) (nd o417 (lf o673) .nil)) (nd o225 (nd o353 (lf o609) .nil) (lf o481)))) (nd o49 (nd o81 (nd (o145 P) (nd o273 (lf o529) .nil) (nd o401 (lf o657) .nil)) (nd o209 (nd o337 (lf o593) .nil) (lf o465))) (nd (o113 P) (nd o177 (nd o305 (lf o561) .nil) (nd o433 (lf o689) .nil)) (nd o241 (nd o369 (lf o625) .nil) (lf (o497 P)))))) (nd o25 (nd o41 (nd o73 (nd o137 (nd o265 (lf o521) .nil) (nd o393 (lf o649) .nil)) (nd o201 (nd o329 (lf o585) .nil) (lf o457))) (nd o105 (nd o169 (nd o297 (lf o553) .nil) (nd o425 (lf o681) .nil)) (nd o233 (nd o361 (lf o617) .nil) (lf o489)))) (nd o57 (nd o89 (nd o153 (nd o281 (lf o537) .nil) (nd o409 (lf o665) .nil)) (nd o217 (nd o345 (lf o601) .nil) (lf o473))) (nd o121 (nd o185 (nd o313 (lf o569) .nil) (lf o441)) (nd o249 (nd o377 (lf o633) .nil) (lf o505)))))) (nd o13 (nd o21 (nd (o37 P) (nd (o69 P) (nd o133 (nd o261 (lf o517) .nil) (nd o389 (lf o645) .nil)) (nd o197 (nd o325 (lf o581) .nil) (lf o453))) (nd o101 (nd o165 (nd o293 (lf o549) .nil) (nd o421 (lf o677) .nil)) (nd o229 (nd o357 (lf (o613 P)) .nil) (lf o485)))) (nd o53 (nd o85 (nd o149 (nd o277 (lf o533) .nil) (nd o405 (lf o661) .nil)) (nd (o213 P) (nd o341 (lf o597) .nil) (lf o469))) (nd o117 (nd o181 (nd o309 (lf o565) .nil) (nd o437 (lf o693) .nil)) (nd o245 (nd o373 (lf o629) .nil) (lf o501))))) (nd o29 (nd o45 (nd o77 (nd o141 (nd o269 (lf o525) .nil) (nd o397 (lf o653) .nil)) (nd o205 (nd o333 (lf o589) .nil) (lf o461))) (nd o109 (nd o173 (nd o301 (lf o557) .nil) (nd o429 (lf o685) .nil)) (nd o237 (nd o365 (lf o621) .nil) (lf o493)))) (nd o61 (nd o93 (nd o157 (nd o285 (lf o541) .nil) (nd o413 (lf o669) .nil)) (nd o221 (nd o349 (lf o605) .nil) (lf o477))) (nd o125 (nd o189 (nd o317 (lf o573) .nil) (lf o445)) (nd o253 (nd (o381 P) (lf o637) .nil) (lf o509)))))))) (nd (boot_o_2 P) (nd (boot_o_4 P) (nd (boot_o_8 P) (nd o16 (nd o32 (nd o64 (nd o128 (nd o256 (lf o512) .nil) (nd o384 (lf o640) .nil)) (nd o192 (nd o320 (lf o576) .nil) (lf o448))) (nd o96 (nd o160 (nd o288 (lf o544) .nil) (nd (o416 P) (lf o672) .nil)) (nd (o224 P) (nd o352 (lf o608) .nil) (lf o480)))) (nd o48 (nd o80 (nd o144 (nd o272 (lf o528) .nil) (nd o400 (lf o656) .nil)) (nd (o208 P) (nd o336 (lf (o592 P)) .nil) (lf o464))) (nd o112 (nd (o176 P) (nd o304 (lf (o560 P)) .nil) (nd o432 (lf o688) .nil)) (nd o240 (nd o368 (lf o624) .nil) (lf o496))))) (nd (o24 P) (nd o40 (nd o72 (nd o136 (nd o264 (lf o520) .nil) (nd o392 (lf (o648 P)) .nil)) (nd o200 (nd o328 (lf o584) .nil) (lf o456))) (nd o104 (nd o168 (nd o296 (lf o552) .nil) (nd o424 (lf o680) .nil)) (nd o232 (nd o360 (lf o616) .nil) (lf (o488 P))))) (nd (o56 P) (nd (o88 P) (nd o152 (nd o280 (lf o536) .nil) (nd o408 (lf o664) .nil)) (nd o216 (nd o344 (lf o600) .nil) (lf o472))) (nd o120 (nd o184 (nd o312 (lf (o568 P)) .nil) (nd o440 (lf o696) .nil)) (nd o248 (nd o376 (lf o632) .nil) (lf o504)))))) (nd o12_4 (nd o20 (nd o36 (nd o68 (nd (o132 P) (nd o260 (lf (o516 P)) .nil) (nd o388 (lf o644) .nil)) (nd o196 (nd o324 (lf (o580 P)) .nil) (lf o452))) (nd o100 (nd (o164 P) (nd o292 (lf o548) .nil) (nd o420 (lf o676) .nil)) (nd o228 (nd o356 (lf o612) .nil) (lf o484)))) (nd o52 (nd o84 (nd o148 (nd o276 (lf o532) .nil) (nd o404 (lf o660) .nil)) (nd o212 (nd o340 (lf o596) .nil) (lf o468))) (nd o116 (nd o180 (nd o308 (lf o564) .nil) (nd o436 (lf o692) .nil)) (nd (o244 P) (nd o372 (lf o628) .nil) (lf o500))))) (nd o28 (nd o44 (nd o76 (nd o140 (nd o268 (lf o524) .nil) (nd (o396 P) (lf o652) .nil)) (nd o204 (nd o332 (lf o588) .nil) (lf o460))) (nd o108 (nd o172 (nd o300 (lf o556) .nil) (nd o428 (lf o684) .nil)) (nd o236 (nd o364 (lf o620) .nil) (lf o492)))) (nd o60 (nd o92 (nd o156 (nd o284 (lf o540) .nil) (nd o412 (lf o668) .nil)) (nd o220 (nd o348 (lf o604) .nil) (lf o476))) (nd o124 (nd o188 (nd o316 (lf o572) .nil) (lf o444)) (nd o252 (nd o380 (lf (o636 P)) .nil) (lf o508))))))) (nd (boot_o_6 P) (nd (boot_o_10 P) (nd o18 (nd o34 (nd o66 (nd o130 (nd o258 (lf o514) .nil) (nd o386 (lf (o642 P)) .nil)) (nd o194 (nd o322 (lf o578) .nil) (lf o450))) (nd o98 (nd o162 (nd o290 (lf o546) .nil) (nd o418 (lf o674) .nil)) (nd o226 (nd o354 (lf o610) .nil) (lf o482)))) (nd (o50 P) (nd o82 (nd o146 (nd o274 (lf o530) .nil) (nd o402 (lf o658) .nil)) (nd o210 (nd o338 (lf o594) .nil) (lf o466))) (nd o114 (nd o178 (nd o306 (lf o562) .nil) (nd o434 (lf o690) .nil)) (nd o242 (nd o370 (lf o626) .nil) (lf o498))))) (nd o26 (nd o42 (nd o74 (nd o138 (nd o266 (lf o522) .nil) (nd o394 (lf o650) .nil)) (nd o202 (nd o330 (lf (o586 P)) .nil) (lf o458))) (nd o106 (nd (o170 P) (nd o298 (lf o554) .nil) (nd o426 (lf o682) .nil)) (nd (o234 P) (nd o362 (lf o618) .nil) (lf o490)))) (nd o58 (nd o90 (nd o154 (nd o282 (lf o538) .nil) (nd o410 (lf o666) .nil)) (nd o218 (nd o346 (lf o602) .nil) (lf o474))) (nd o122 (nd o186 (nd o314 (lf o570) .nil) (lf o442)) (nd o250 (nd o378 (lf o634) .nil) (lf o506)))))) (nd o14 (nd o22 (nd o38 (nd o70 (nd o134 (nd o262 (lf o518) .nil) (nd o390 (lf o646) .nil)) (nd o198 (nd o326 (lf o582) .nil) (lf o454))) (nd o102 (nd o166 (nd o294 (lf o550) .nil) (nd o422 (lf o678) .nil)) (nd o230 (nd (o358 P) (lf o614) .nil) (lf o486)))) (nd o54 (nd o86 (nd o150 (nd o278 (lf o534) .nil) (nd o406 (lf o662) .nil)) (nd o214 (nd o342 (lf o598) .nil) (lf o470))) (nd o118 (nd o182 (nd o310 (lf o566) .nil) (nd o438 (lf o694) .nil)) (nd o246 (nd o374 (lf o630) .nil) (lf o502))))) (nd (o30 P) (nd o46 (nd o78 (nd o142 (nd o270 (lf o526) .nil) (nd o398 (lf o654) .nil)) (nd o206 (nd o334 (lf o590) .nil) (lf o462))) (nd o110 (nd o174 (nd o302 (lf o558) .nil) (nd o430 (lf o686) .nil)) (nd o238 (nd o366 (lf o622) .nil) (lf o494)))) (nd o62 (nd (o94 P) (nd o158 (nd o286 (lf o542) .nil) (nd o414 (lf o670) .nil)) (nd o222 (nd o350 (lf o606) .nil) (lf o478))) (nd (o126 P) (nd o190 (nd o318 (lf (o574 P)) .nil) (lf o446)) (nd (o254 P) (nd o382 (lf o638) .nil) (lf o510))))))))
def S4 (w : World) (os : OsState) : SharedT := ⟨T4 w.params, 697, (boot_heap w.params).life, #[], boot_drawn, 1169, os⟩
def o3_5 (P : Params) : Obj := di [en P "__name__" 165 (s "law_lapseeds_k08_ends_fit_and_take" 1124), en P "__doc__" 166 Value.none, en P "__package__" 167 Value.none, en P "__loader__" 168 (bi "__main__.__loader__#opaque"), en P "__spec__" 169 Value.none, en P "__annotations__" 170 (r 6), en P "__builtins__" 171 (r 4), en P "__file__" 173 (s "/claim/cut.py" 172), en P "__cached__" 174 Value.none, en P "_wall" 193 (r 21), en P "LapError" 213 (r 31), en P "BadHeld" 238 (r 51), en P "BadRing" 263 (r 70), en P "BadPlayer" 288 (r 89), en P "BadPit" 313 (r 108), en P "BadEnd" 338 (r 127), en P "BadNumber" 363 (r 146), en P "BadText" 390 (r 165), en P "Unlike" 406 (r 177), en P "FIGURES" 410 (s "0123456789" 409), en P "is_whole" 417 (r 186), en P "is_between" 426 (r 193), en P "number_in" 432 (r 198), en P "MOST_NUMBER" 436 (Value.int 3 435), en P "bound_of" 445 (r 205), en P "Held" 668 (r 359), en P "held_of" 674 (r 368), en P "told_held" 680 (r 373), en P "need_seeds" 690 (r 380), en P "LEAST_SIZE" 694 (Value.int 2 693), en P "MOST_SIZE" 696 (Value.int 6 695), en P "SIGNS" 698 (s "abABo" 697), en P "PITS" 700 (s "ab" 699), en P "STORES" 702 (s "AB" 701), en P "EXCHANGED" 718 (r 381), en P "are_signs" 724 (r 386), en P "need_player" 731 (r 393), en P "Ring" 863 (r 489), en P "PLACES" 872 (r 494), en P "OPEN" 874 (s "o" 873), en P "End" 982 (r 561), en P "Quiet" 1000 (r 575), en P "Again" 1019 (r 587), en P "Take" 1049 (r 608), en P "Across" 1089 (r 637), en P "TakeAgain" 1107 (r 649), en P "made_end" 1113 (r 656), en P "told_end" 1123 (r 663), en P "_law_pen" 1132 (r 670), en P "_law_draw" 1145 (r 677), en P "_law_pick" 1153 (r 684), en P "_law_numbers" 1159 (r 689), en P "_law_held" 1168 (r 696), en P "_law_signs" 1178 (r 703), en P "_law_end" 1187 (r 710), en P "_law_made" 1197 (r 717), en P "_law_is_at" 1209 (r 724), en P "_law_fits" 1225 (r 731), en P "_law_kind_right" 1237 (r 738), en P "_law_taken" 1248 (r 745), en P "_law_acts_right" 1263 (r 752), en P "law" 1279 (r 759)] 62
def o12_5 : Obj := fi [(i 1), (i 0), (r 20), (i 5), (i 0), (r 27), (i 7), (i 0), (r 40), (i 11), (i 0), (r 59), (i 15), (i 0), (r 78), (i 19), (i 0), (r 97), (i 23), (i 0), (r 116), (i 27), (i 0), (r 135), (i 31), (i 0), (r 154), (i 36), (i 0), (r 173), (i 40), (i 0), (r 185), (i 42), (i 0), (r 192), (i 44), (i 0), (r 197), (i 50), (i 0), (r 204), (i 55), (i 0), (r 211), (i 149), (i 0), (r 367), (i 153), (i 0), (r 372), (i 167), (i 0), (r 379), (i 177), (i 0), (r 385), (i 182), (i 0), (r 392), (i 185), (i 0), (r 399), (i 242), (i 0), (r 500), (i 297), (i 0), (r 571), (i 299), (i 0), (r 583), (i 302), (i 0), (r 596), (i 309), (i 0), (r 617), (i 321), (i 0), (r 645), (i 323), (i 0), (r 655), (i 336), (i 0), (r 662), (i 344), (i 0), (r 669), (i 346), (i 0), (r 676), (i 363), (i 0), (r 683), (i 365), (i 0), (r 688), (i 367), (i 0), (r 695), (i 372), (i 0), (r 702), (i 380), (i 0), (r 709), (i 384), (i 0), (r 716), (i 393), (i 0), (r 723), (i 399), (i 0), (r 730), (i 405), (i 0), (r 737), (i 417), (i 0), (r 744), (i 424), (i 0), (r 751), (i 437), (i 0), (r 758)]
def o697 : Obj := tu []
def o698 : Obj := fi []
def o699 : Obj := tu [(s "_law_pen_here" 1172), (s "_law_found" 1173), (s "_law_k" 1174), (s "_law_sign" 1175)]
def o700 : Obj := tu []
def o701 : Obj := fu Value.none "_law_signs" "_law_signs" d68 0 [] Value.none Value.none Value.none Value.none none Value.none Value.none 0
def o702 : Obj := fo "code" [(s "_law_signs" 1169), (s "_law_signs" 1170), (s "/claim/cut.py" 1171), (i 372), (i 1), (i 0), (i 0), (i 3), (r 697), (Value.bool true), (i 181), (r 698), Value.none, (r 699), (r 700), (r 701), (i 1176), (i 372), (s "/claim/cut.py" 1177)]
def o703 : Obj := fu (ty "function") "_law_signs" "_law_signs" d68 3 [] Value.none Value.none Value.none (s "law_lapseeds_k08_ends_fit_and_take" 1124) none (r 702) Value.none 0
def o704 : Obj := tu []
def o705 : Obj := fi []
def o706 : Obj := tu [(s "_law_pen_here" 1182), (s "_law_word" 1183), (s "_law_place" 1184)]
def o707 : Obj := tu []
def o708 : Obj := fu Value.none "_law_end" "_law_end" d69 0 [] Value.none Value.none Value.none Value.none none Value.none Value.none 0
def o709 : Obj := fo "code" [(s "_law_end" 1179), (s "_law_end" 1180), (s "/claim/cut.py" 1181), (i 380), (i 1), (i 0), (i 0), (i 3), (r 704), (Value.bool true), (i 181), (r 705), Value.none, (r 706), (r 707), (r 708), (i 1185), (i 380), (s "/claim/cut.py" 1186)]
def o710 : Obj := fu (ty "function") "_law_end" "_law_end" d69 3 [] Value.none Value.none Value.none (s "law_lapseeds_k08_ends_fit_and_take" 1124) none (r 709) Value.none 0
def o711 : Obj := tu []
def o712 : Obj := fi []
def o713 : Obj := tu [(s "_law_told" 1191), (s "_law_word" 1192), (s "_law_place" 1193), (s "_law_group" 1194)]
def o714 : Obj := tu []
def o715 : Obj := fu Value.none "_law_made" "_law_made" d70 0 [] Value.none Value.none Value.none Value.none none Value.none Value.none 0
def o716 : Obj := fo "code" [(s "_law_made" 1188), (s "_law_made" 1189), (s "/claim/cut.py" 1190), (i 384), (i 1), (i 0), (i 0), (i 3), (r 711), (Value.bool true), (i 181), (r 712), Value.none, (r 713), (r 714), (r 715), (i 1195), (i 384), (s "/claim/cut.py" 1196)]
def o717 : Obj := fu (ty "function") "_law_made" "_law_made" d70 3 [] Value.none Value.none Value.none (s "law_lapseeds_k08_ends_fit_and_take" 1124) none (r 716) Value.none 0
def o718 : Obj := tu []
def o719 : Obj := fi []
def o720 : Obj := tu [(s "_law_signs_here" 1201), (s "_law_who" 1202), (s "_law_here" 1203), (s "_law_place" 1204), (s "_law_sign" 1205), (s "_law_spot" 1206)]
def o721 : Obj := tu []
def o722 : Obj := fu Value.none "_law_is_at" "_law_is_at" d71 0 [] Value.none Value.none Value.none Value.none none Value.none Value.none 0
def o723 : Obj := fo "code" [(s "_law_is_at" 1198), (s "_law_is_at" 1199), (s "/claim/cut.py" 1200), (i 393), (i 4), (i 0), (i 0), (i 3), (r 718), (Value.bool true), (i 181), (r 719), Value.none, (r 720), (r 721), (r 722), (i 1207), (i 393), (s "/claim/cut.py" 1208)]
def o724 : Obj := fu (ty "function") "_law_is_at" "_law_is_at" d71 3 [] Value.none Value.none Value.none (s "law_lapseeds_k08_ends_fit_and_take" 1124) none (r 723) Value.none 0
def o725 : Obj := tu []
def o726 : Obj := fi []
def o727 : Obj := tu [(s "_law_told" 1213), (s "_law_signs_here" 1214), (s "_law_who" 1215), (s "_law_here" 1216), (s "_law_lay_there" 1217), (s "_law_across_it" 1218), (s "_law_place" 1219), (s "_law_is_full" 1220), (s "_law_numbers_here" 1221), (s "_law_is_endless" 1222)]
def o728 : Obj := tu []
def o729 : Obj := fu Value.none "_law_fits" "_law_fits" d72 0 [] Value.none Value.none Value.none Value.none none Value.none Value.none 0
def o730 : Obj := fo "code" [(s "_law_fits" 1210), (s "_law_fits" 1211), (s "/claim/cut.py" 1212), (i 399), (i 6), (i 0), (i 0), (i 3), (r 725), (Value.bool true), (i 181), (r 726), Value.none, (r 727), (r 728), (r 729), (i 1223), (i 399), (s "/claim/cut.py" 1224)]
def o731 : Obj := fu (ty "function") "_law_fits" "_law_fits" d72 3 [] Value.none Value.none Value.none (s "law_lapseeds_k08_ends_fit_and_take" 1124) none (r 730) Value.none 0
def o732 : Obj := tu []
def o733 : Obj := fi []
def o734 : Obj := tu [(s "_law_told" 1229), (s "_law_made_here" 1230), (s "_law_word" 1231), (s "_law_is_take" 1232), (s "_law_is_again" 1233), (s "_law_kinds" 1234)]
def o735 : Obj := tu []
def o736 : Obj := fu Value.none "_law_kind_right" "_law_kind_right" d73 0 [] Value.none Value.none Value.none Value.none none Value.none Value.none 0
def o737 : Obj := fo "code" [(s "_law_kind_right" 1226), (s "_law_kind_right" 1227), (s "/claim/cut.py" 1228), (i 405), (i 2), (i 0), (i 0), (i 3), (r 732), (Value.bool true), (i 181), (r 733), Value.none, (r 734), (r 735), (r 736), (i 1235), (i 405), (s "/claim/cut.py" 1236)]
def o738 : Obj := fu (ty "function") "_law_kind_right" "_law_kind_right" d73 3 [] Value.none Value.none Value.none (s "law_lapseeds_k08_ends_fit_and_take" 1124) none (r 737) Value.none 0
def o739 : Obj := tu []
def o740 : Obj := fi []
def o741 : Obj := tu [(s "_law_told" 1241), (s "_law_across" 1242), (s "_law_size" 1243), (s "_law_here" 1244), (s "_law_across_it" 1245)]
def o742 : Obj := tu []
def o743 : Obj := fu Value.none "_law_taken" "_law_taken" d74 0 [] Value.none Value.none Value.none Value.none none Value.none Value.none 0
def o744 : Obj := fo "code" [(s "_law_taken" 1238), (s "_law_taken" 1239), (s "/claim/cut.py" 1240), (i 417), (i 4), (i 0), (i 0), (i 3), (r 739), (Value.bool true), (i 181), (r 740), Value.none, (r 741), (r 742), (r 743), (i 1246), (i 417), (s "/claim/cut.py" 1247)]
def o745 : Obj := fu (ty "function") "_law_taken" "_law_taken" d74 3 [] Value.none Value.none Value.none (s "law_lapseeds_k08_ends_fit_and_take" 1124) none (r 744) Value.none 0
def o746 : Obj := tu []
def o747 : Obj := fi []
def o748 : Obj := tu [(s "_law_made_here" 1252), (s "_law_told" 1253), (s "_law_ground" 1254), (s "_law_here" 1255), (s "_law_who" 1256), (s "_law_due" 1257), (s "_law_heard" 1258), (s "_law_lay_there" 1259), (s "_law_across_it" 1260)]
def o749 : Obj := tu []
def o750 : Obj := fu Value.none "_law_acts_right" "_law_acts_right" d75 0 [] Value.none Value.none Value.none Value.none none Value.none Value.none 0
def o751 : Obj := fo "code" [(s "_law_acts_right" 1249), (s "_law_acts_right" 1250), (s "/claim/cut.py" 1251), (i 424), (i 4), (i 0), (i 0), (i 3), (r 746), (Value.bool true), (i 181), (r 747), Value.none, (r 748), (r 749), (r 750), (i 1261), (i 424), (s "/claim/cut.py" 1262)]
def o752 : Obj := fu (ty "function") "_law_acts_right" "_law_acts_right" d75 3 [] Value.none Value.none Value.none (s "law_lapseeds_k08_ends_fit_and_take" 1124) none (r 751) Value.none 0
def o753 : Obj := tu []
def o754 : Obj := fi []
def o755 : Obj := tu [(s "_law_script" 1267), (s "_law_pen_here" 1268), (s "_law_lap" 1269), (s "_law_signs_here" 1270), (s "_law_told" 1271), (s "_law_across" 1272), (s "_law_ground" 1273), (s "_law_made_here" 1274), (s "_law_here" 1275), (s "_law_due" 1276)]
def o756 : Obj := tu []
def o757 : Obj := fu Value.none "law" "law" d76 0 [] Value.none Value.none Value.none Value.none none Value.none Value.none 0
def o758 : Obj := fo "code" [(s "law" 1264), (s "law" 1265), (s "/claim/cut.py" 1266), (i 437), (i 1), (i 0), (i 0), (i 3), (r 753), (Value.bool true), (i 181), (r 754), Value.none, (r 755), (r 756), (r 757), (i 1277), (i 437), (s "/claim/cut.py" 1278)]
def o759 : Obj := fu (ty "function") "law" "law" d76 3 [] Value.none Value.none Value.none (s "law_lapseeds_k08_ends_fit_and_take" 1124) none (r 758) Value.none 0
def T5 (P : Params) : BT := nd (boot_o_0 P) (nd (boot_o_1 P) (nd (o3_5 P) (nd (boot_o_7 P) (nd o15 (nd o31 (nd o63 (nd o127 (nd o255 (lf o511) .nil) (nd o383 (lf o639) .nil)) (nd o191 (nd o319 (lf o575) .nil) (nd o447 (lf o703) .nil))) (nd o95 (nd o159 (nd o287 (lf o543) .nil) (nd o415 (lf o671) .nil)) (nd o223 (nd o351 (lf (o607 P)) .nil) (nd o479 (lf o735) .nil)))) (nd o47 (nd o79 (nd o143 (nd o271 (lf o527) .nil) (nd o399 (lf o655) .nil)) (nd o207 (nd o335 (lf o591) .nil) (nd o463 (lf o719) .nil))) (nd o111 (nd o175 (nd o303 (lf o559) .nil) (nd o431 (lf o687) .nil)) (nd o239 (nd o367 (lf o623) .nil) (nd o495 (lf o751) .nil))))) (nd o23 (nd o39 (nd o71 (nd o135 (nd o263 (lf o519) .nil) (nd o391 (lf o647) .nil)) (nd o199 (nd o327 (lf o583) .nil) (nd o455 (lf o711) .nil))) (nd o103 (nd o167 (nd o295 (lf o551) .nil) (nd o423 (lf o679) .nil)) (nd o231 (nd o359 (lf o615) .nil) (nd o487 (lf o743) .nil)))) (nd o55 (nd o87 (nd (o151 P) (nd o279 (lf o535) .nil) (nd o407 (lf o663) .nil)) (nd o215 (nd o343 (lf o599) .nil) (nd o471 (lf o727) .nil))) (nd o119 (nd o183 (nd o311 (lf o567) .nil) (nd o439 (lf o695) .nil)) (nd o247 (nd o375 (lf o631) .nil) (nd o503 (lf o759) .nil)))))) (nd o11 (nd o19 (nd o35 (nd o67 (nd o131 (nd o259 (lf o515) .nil) (nd o387 (lf o643) .nil)) (nd o195 (nd o323 (lf o579) .nil) (nd o451 (lf o707) .nil))) (nd o99 (nd o163 (nd o291 (lf o547) .nil) (nd o419 (lf o675) .nil)) (nd o227 (nd o355 (lf o611) .nil) (nd o483 (lf o739) .nil)))) (nd o51 (nd o83 (nd o147 (nd o275 (lf o531) .nil) (nd o403 (lf o659) .nil)) (nd o211 (nd o339 (lf o595) .nil) (nd o467 (lf o723) .nil))) (nd o115 (nd o179 (nd o307 (lf o563) .nil) (nd o435 (lf o691) .nil)) (nd o243 (nd o371 (lf o627) .nil) (nd o499 (lf o755) .nil))))) (nd o27 (nd o43 (nd (o75 P) (nd o139 (nd o267 (lf o523) .nil) (nd o395 (lf o651) .nil)) (nd o203 (nd o331 (lf o587) .nil) (nd o459 (lf o715) .nil))) (nd (o107 P) (nd o171 (nd o299 (lf o555) .nil) (nd o427 (lf o683) .nil)) (nd o235 (nd o363 (lf o619) .nil) (nd o491 (lf o747) .nil)))) (nd o59 (nd o91 (nd o155 (nd o283 (lf o539) .nil) (nd o411 (lf o667) .nil)) (nd o219 (nd o347 (lf o603) .nil) (nd o475 (lf o731) .nil))) (nd o123 (nd o187 (nd o315 (lf o571) .nil) (nd o443 (lf o699) .nil)) (nd o251 (nd o379 (lf o635) .nil) (lf o507))))))) (nd (boot_o_5 P) (nd (boot_o_9 P) (nd o17 (nd o33 (nd o65 (nd o129 (nd o257 (lf o513) .nil) (nd o385 (lf o641) .nil)) (nd o193 (nd o321 (lf o577) .nil) (nd o449 (lf o705) .nil))) (nd o97 (nd o161 (nd o289 (lf o545) .nil) (nd o417 (lf o673) .nil)) (nd o225 (nd o353 (lf o609) .nil) (nd o481 (lf o737) .nil)))) (nd o49 (nd o81 (nd (o145 P) (nd o273 (lf o529) .nil) (nd o401 (lf o657) .nil)) (nd o209 (nd o337 (lf o593) .nil) (nd o465 (lf o721) .nil))) (nd (o113 P) (nd o177 (nd o305 (lf o561) .nil) (nd o433 (lf o689) .nil)) (nd o241 (nd o369 (lf o625) .nil) (nd (o497 P) (lf o753) .nil))))) (nd o25 (nd o41 (nd o73 (nd o137 (nd o265 (lf o521) .nil) (nd o393 (lf o649) .nil)) (nd o201 (nd o329 (lf o585) .nil) (nd o457 (lf o713) .nil))) (nd o105 (nd o169 (nd o297 (lf o553) .nil) (nd o425 (lf o681) .nil)) (nd o233 (nd o361 (lf o617) .nil) (nd o489 (lf o745) .nil)))) (nd o57 (nd o89 (nd o153 (nd o281 (lf o537) .nil) (nd o409 (lf o665) .nil)) (nd o217 (nd o345 (lf o601) .nil) (nd o473 (lf o729) .nil))) (nd o121 (nd o185 (nd o313 (lf o569) .nil) (nd o441 (lf o697) .nil)) (nd o249 (nd o377 (lf o633) .nil) (lf o505)))))) (nd o13 (nd o21 (nd (o37 P) (nd (o69 P) (nd o133 (nd o261 (lf o517) .nil) (nd o389 (lf o645) .nil)) (nd o197 (nd o325 (lf o581) .nil) (nd o453 (lf o709) .nil))) (nd o101 (nd o165 (nd o293 (lf o549) .nil) (nd o421 (lf o677) .nil)) (nd o229 (nd o357 (lf (o613 P)) .nil) (nd o485 (lf o741) .nil)))) (nd o53 (nd o85 (nd o149 (nd o277 (lf o533) .nil) (nd o405 (lf o661) .nil)) (nd (o213 P) (nd o341 (lf o597) .nil) (nd o469 (lf o725) .nil))) (nd o117 (nd o181 (nd o309 (lf o565) .nil) (nd o437 (lf o693) .nil)) (nd o245 (nd o373 (lf o629) .nil) (nd o501 (lf o757) .nil))))) (nd o29 (nd o45 (nd o77 (nd o141 (nd o269 (lf o525) .nil) (nd o397 (lf o653) .nil)) (nd o205 (nd o333 (lf o589) .nil) (nd o461 (lf o717) .nil))) (nd o109 (nd o173 (nd o301 (lf o557) .nil) (nd o429 (lf o685) .nil)) (nd o237 (nd o365 (lf o621) .nil) (nd o493 (lf o749) .nil)))) (nd o61 (nd o93 (nd o157 (nd o285 (lf o541) .nil) (nd o413 (lf o669) .nil)) (nd o221 (nd o349 (lf o605) .nil) (nd o477 (lf o733) .nil))) (nd o125 (nd o189 (nd o317 (lf o573) .nil) (nd o445 (lf o701) .nil)) (nd o253 (nd (o381 P) (lf o637) .nil) (lf o509)))))))) (nd (boot_o_2 P) (nd (boot_o_4 P) (nd (boot_o_8 P) (nd o16 (nd o32 (nd o64 (nd o128 (nd o256 (lf o512) .nil) (nd o384 (lf o640) .nil)) (nd o192 (nd o320 (lf o576) .nil) (nd o448 (lf o704) .nil))) (nd o96 (nd o160 (nd o288 (lf o544) .nil) (nd (o416 P) (lf o672) .nil)) (nd (o224 P) (nd o352 (lf o608) .nil) (nd o480 (lf o736) .nil)))) (nd o48 (nd o80 (nd o144 (nd o272 (lf o528) .nil) (nd o400 (lf o656) .nil)) (nd (o208 P) (nd o336 (lf (o592 P)) .nil) (nd o464 (lf o720) .nil))) (nd o112 (nd (o176 P) (nd o304 (lf (o560 P)) .nil) (nd o432 (lf o688) .nil)) (nd o240 (nd o368 (lf o624) .nil) (nd o496 (lf o752) .nil))))) (nd (o24 P) (nd o40 (nd o72 (nd o136 (nd o264 (lf o520) .nil) (nd o392 (lf (o648 P)) .nil)) (nd o200 (nd o328 (lf o584) .nil) (nd o456 (lf o712) .nil))) (nd o104 (nd o168 (nd o296 (lf o552) .nil) (nd o424 (lf o680) .nil)) (nd o232 (nd o360 (lf o616) .nil) (nd (o488 P) (lf o744) .nil)))) (nd (o56 P) (nd (o88 P) (nd o152 (nd o280 (lf o536) .nil) (nd o408 (lf o664) .nil)) (nd o216 (nd o344 (lf o600) .nil) (nd o472 (lf o728) .nil))) (nd o120 (nd o184 (nd o312 (lf (o568 P)) .nil) (nd o440 (lf o696) .nil)) (nd o248 (nd o376 (lf o632) .nil) (lf o504)))))) (nd o12_5 (nd o20 (nd o36 (nd o68 (nd (o132 P) (nd o260 (lf (o516 P)) .nil) (nd o388 (lf o644) .nil)) (nd o196 (nd o324 (lf (o580 P)) .nil) (nd o452 (lf o708) .nil))) (nd o100 (nd (o164 P) (nd o292 (lf o548) .nil) (nd o420 (lf o676) .nil)) (nd o228 (nd o356 (lf o612) .nil) (nd o484 (lf o740) .nil)))) (nd o52 (nd o84 (nd o148 (nd o276 (lf o532) .nil) (nd o404 (lf o660) .nil)) (nd o212 (nd o340 (lf o596) .nil) (nd o468 (lf o724) .nil))) (nd o116 (nd o180 (nd o308 (lf o564) .nil) (nd o436 (lf o692) .nil)) (nd (o244 P) (nd o372 (lf o628) .nil) (nd o500 (lf o756) .nil))))) (nd o28 (nd o44 (nd o76 (nd o140 (nd o268 (lf o524) .nil) (nd (o396 P) (lf o652) .nil)) (nd o204 (nd o332 (lf o588) .nil) (nd o460 (lf o716) .nil))) (nd o108 (nd o172 (nd o300 (lf o556) .nil) (nd o428 (lf o684) .nil)) (nd o236 (nd o364 (lf o620) .nil) (nd o492 (lf o748) .nil)))) (nd o60 (nd o92 (nd o156 (nd o284 (lf o540) .nil) (nd o412 (lf o668) .nil)) (nd o220 (nd o348 (lf o604) .nil) (nd o476 (lf o732) .nil))) (nd o124 (nd o188 (nd o316 (lf o572) .nil) (nd o444 (lf o700) .nil)) (nd o252 (nd o380 (lf (o636 P)) .nil) (lf o508))))))) (nd (boot_o_6 P) (nd (boot_o_10 P) (nd o18 (nd o34 (nd o66 (nd o130 (nd o258 (lf o514) .nil) (nd o386 (lf (o642 P)) .nil)) (nd o194 (nd o322 (lf o578) .nil) (nd o450 (lf o706) .nil))) (nd o98 (nd o162 (nd o290 (lf o546) .nil) (nd o418 (lf o674) .nil)) (nd o226 (nd o354 (lf o610) .nil) (nd o482 (lf o738) .nil)))) (nd (o50 P) (nd o82 (nd o146 (nd o274 (lf o530) .nil) (nd o402 (lf o658) .nil)) (nd o210 (nd o338 (lf o594) .nil) (nd o466 (lf o722) .nil))) (nd o114 (nd o178 (nd o306 (lf o562) .nil) (nd o434 (lf o690) .nil)) (nd o242 (nd o370 (lf o626) .nil) (nd o498 (lf o754) .nil))))) (nd o26 (nd o42 (nd o74 (nd o138 (nd o266 (lf o522) .nil) (nd o394 (lf o650) .nil)) (nd o202 (nd o330 (lf (o586 P)) .nil) (nd o458 (lf o714) .nil))) (nd o106 (nd (o170 P) (nd o298 (lf o554) .nil) (nd o426 (lf o682) .nil)) (nd (o234 P) (nd o362 (lf o618) .nil) (nd o490 (lf o746) .nil)))) (nd o58 (nd o90 (nd o154 (nd o282 (lf o538) .nil) (nd o410 (lf o666) .nil)) (nd o218 (nd o346 (lf o602) .nil) (nd o474 (lf o730) .nil))) (nd o122 (nd o186 (nd o314 (lf o570) .nil) (nd o442 (lf o698) .nil)) (nd o250 (nd o378 (lf o634) .nil) (lf o506)))))) (nd o14 (nd o22 (nd o38 (nd o70 (nd o134 (nd o262 (lf o518) .nil) (nd o390 (lf o646) .nil)) (nd o198 (nd o326 (lf o582) .nil) (nd o454 (lf o710) .nil))) (nd o102 (nd o166 (nd o294 (lf o550) .nil) (nd o422 (lf o678) .nil)) (nd o230 (nd (o358 P) (lf o614) .nil) (nd o486 (lf o742) .nil)))) (nd o54 (nd o86 (nd o150 (nd o278 (lf o534) .nil) (nd o406 (lf o662) .nil)) (nd o214 (nd o342 (lf o598) .nil) (nd o470 (lf o726) .nil))) (nd o118 (nd o182 (nd o310 (lf o566) .nil) (nd o438 (lf o694) .nil)) (nd o246 (nd o374 (lf o630) .nil) (nd o502 (lf o758) .nil))))) (nd (o30 P) (nd o46 (nd o78 (nd o142 (nd o270 (lf o526) .nil) (nd o398 (lf o654) .nil)) (nd o206 (nd o334 (lf o590) .nil) (nd o462 (lf o718) .nil))) (nd o110 (nd o174 (nd o302 (lf o558) .nil) (nd o430 (lf o686) .nil)) (nd o238 (nd o366 (lf o622) .nil) (nd o494 (lf o750) .nil)))) (nd o62 (nd (o94 P) (nd o158 (nd o286 (lf o542) .nil) (nd o414 (lf o670) .nil)) (nd o222 (nd o350 (lf o606) .nil) (nd o478 (lf o734) .nil))) (nd (o126 P) (nd o190 (nd o318 (lf (o574 P)) .nil) (nd o446 (lf o702) .nil)) (nd (o254 P) (nd o382 (lf o638) .nil) (lf o510))))))))
def S5 (w : World) (os : OsState) : SharedT := ⟨T5 w.params, 760, (boot_heap w.params).life, #[], boot_drawn, 1280, os⟩
def Env0 : Env := { scope := PySem.Challenge.pw_lapseeds_k08_ends_fit_and_take.main.scope, locals := mainNs, globals := mainNs, cells := [], code := (r 13), frame := some 14 }
def C0 : Code := .body body Env0
end
end K08H
set_option Elab.async false
set_option linter.all false
set_option maxRecDepth 100000
set_option maxHeartbeats 4000000
namespace K08H
open PySem PySem.W PySem.Calls PyProof.Rows HandSHeadRun HX
theorem pre (w : World) (os : OsState) : preF (stepQ (denQ tabQ) PySem.Challenge.pw_lapseeds_k08_ends_fit_and_take w) 11 ANN 12 (HX.S0 w os) (topStub PySem.Challenge.pw_lapseeds_k08_ends_fit_and_take) = some (K08H.S0 w os, ⟨denQ tabQ C0, C0, ⟨0, 0, 0, 0⟩, B1⟩) := by kernel_rfl
theorem blk0 (w : World) (os : OsState) : segF (stepQ (denQ tabQ) PySem.Challenge.pw_lapseeds_k08_ends_fit_and_take w) 11 ANN 50 (K08H.S0 w os) (blk body Env0 C0 ⟨0, 0, 0, 0⟩) = some (.next, K08H.S0 w os, C0, ⟨0, 0, 0, 0⟩) := by kernel_rfl
theorem pc1 (w : World) (os : OsState) : Pc PySem.Challenge.pw_lapseeds_k08_ends_fit_and_take w 2308 (grp body 0 19) Env0 C0 (K08H.S0 w os) ⟨0, 0, 0, 0⟩ (S1 w os) ⟨50, 0, 54, 16⟩ := by
  unfold Pc
  kernel_rfl
theorem pc2 (w : World) (os : OsState) : Pc PySem.Challenge.pw_lapseeds_k08_ends_fit_and_take w 1523 (grp body 19 11) Env0 C0 (S1 w os) ⟨50, 0, 54, 16⟩ (S2 w os) ⟨175, 0, 175, 6⟩ := by
  unfold Pc
  kernel_rfl
theorem pc3f (w : World) : (fun w => ∀ os : OsState, Pc PySem.Challenge.pw_lapseeds_k08_ends_fit_and_take w 86 (grp body 30 1) Env0 C0 (S2 w os) ⟨175, 0, 175, 6⟩ (S3 w os) ⟨176, 0, 176, 9⟩) (w.withFollow "special-get-raises" false) := by
  intro os
  unfold Pc
  kernel_rfl
theorem pc3t (w : World) : (fun w => ∀ os : OsState, Pc PySem.Challenge.pw_lapseeds_k08_ends_fit_and_take w 86 (grp body 30 1) Env0 C0 (S2 w os) ⟨175, 0, 175, 6⟩ (S3 w os) ⟨176, 0, 176, 9⟩) (w.withFollow "special-get-raises" true) := by
  intro os
  unfold Pc
  kernel_rfl
theorem pc3 (w : World) (os : OsState) : Pc PySem.Challenge.pw_lapseeds_k08_ends_fit_and_take w 86 (grp body 30 1) Env0 C0 (S2 w os) ⟨175, 0, 175, 6⟩ (S3 w os) ⟨176, 0, 176, 9⟩ := byRow2 "special-get-raises" (P := fun w => ∀ os : OsState, Pc PySem.Challenge.pw_lapseeds_k08_ends_fit_and_take w 86 (grp body 30 1) Env0 C0 (S2 w os) ⟨175, 0, 175, 6⟩ (S3 w os) ⟨176, 0, 176, 9⟩) pc3f pc3t w os
theorem pc4 (w : World) (os : OsState) : Pc PySem.Challenge.pw_lapseeds_k08_ends_fit_and_take w 2972 (grp body 31 20) Env0 C0 (S3 w os) ⟨176, 0, 176, 9⟩ (S4 w os) ⟨367, 0, 371, 70⟩ := by
  unfold Pc
  kernel_rfl
theorem pc5 (w : World) (os : OsState) : Pc PySem.Challenge.pw_lapseeds_k08_ends_fit_and_take w 310 (grp body 51 9) Env0 C0 (S4 w os) ⟨367, 0, 371, 70⟩ (S5 w os) ⟨437, 0, 451, 109⟩ := by
  unfold Pc
  kernel_rfl
theorem parts : body = grp body 0 19 ++ (grp body 19 11 ++ (grp body 30 1 ++ (grp body 31 20 ++ (grp body 51 9 ++ [])))) := by kernel_rfl
theorem run (w : World) (os : OsState) : topRun treeTable PySem.Challenge.pw_lapseeds_k08_ends_fit_and_take w (boot_heap w.params).objs.size (bootAnn w) (12 + (50 + (2308 + (1523 + (86 + (2972 + (310 + 3))))))) ⟨boot_heap w.params, #[], boot_drawn, boot_toks, os⟩ (topStub PySem.Challenge.pw_lapseeds_k08_ends_fit_and_take) = some (S5 w os).abs := by
  refine pc_first (pre w os) (blk0 w os) ?_
  have e : restOf body Env0 (.body body Env0) ⟨0, 0, 0, 0⟩ B1 = restOf (grp body 0 19 ++ (grp body 19 11 ++ (grp body 30 1 ++ (grp body 31 20 ++ (grp body 51 9 ++ []))))) Env0 C0 ⟨0, 0, 0, 0⟩ B1 := congrArg (fun b => restOf b Env0 C0 ⟨0, 0, 0, 0⟩ B1) parts
  rw [e]
  exact (pc_cons (pc1 w os) (pc_cons (pc2 w os) (pc_cons (pc3 w os) (pc_cons (pc4 w os) (pc_cons (pc5 w os) (pc_nil))))))
end K08H
set_option Elab.async false
set_option linter.all false
set_option maxRecDepth 100000
set_option maxHeartbeats 4000000
/-! a head's Hook of a great head: what some names reach, each address once, told by the bits of a number -/
namespace ZH
open PySem PySem.W L2
end ZH
set_option Elab.async false
set_option linter.all false
set_option maxRecDepth 100000
set_option maxHeartbeats 4000000
/-! a head's Hook over a fragment that is written out -/
namespace ZH
open PySem PySem.W L2
def hookF (as : List Addr) (K : Params → Frag) (ea : ∀ P, as = (K P).map (·.1)) (Says : World → Frag → Prop) (hs : ∀ w : World, Says w (K w.params)) : PySem.W.Hook where
  α := List (Option Obj)
  obs := fun s => as.map s.heap.get?
  val := fun w => (K w.params).map fun p => some p.2
  says := fun w h => ∃ K : Frag, K.In h ∧ Says w K
  of := fun w s e => ⟨K w.params, Frag.in_of (ea _) e, hs w⟩
  keeps := fun _ _ _ z k => z.elim fun K q => ⟨K, Frag.In.keeps q.1 k, q.2⟩
def obF (as : List Addr) (s : PySem.W.SharedT) : List (Option Obj) := as.map (HandSHeadRun.getT s)
theorem obF_eq {as : List Addr} {K : Params → Frag} {ea : ∀ P, as = (K P).map (·.1)} {Says : World → Frag → Prop} {hs : ∀ w : World, Says w (K w.params)} (s : PySem.W.SharedT) : obF as s = (hookF as K ea Says hs).obs s.abs := by
  unfold obF
  rw [show HandSHeadRun.getT s = s.abs.heap.get? from funext (HandSHeadRun.getT_eq s)]
  rfl
end ZH
set_option Elab.async false
set_option linter.all false
set_option maxRecDepth 100000
set_option maxHeartbeats 4000000
namespace K08H
open PySem PySem.W PySem.Calls PyProof.Rows HandSHeadRun HX
def as0 : List Addr := [2, 3, 30, 31, 43, 47, 48, 50, 51, 62, 66, 67, 69, 70, 81, 85, 86, 88, 89, 100, 104, 105, 107, 108, 119, 123, 124, 126, 127, 138, 142, 143, 145, 146, 176, 177, 181, 185, 186, 188, 192, 193, 200, 204, 205, 213, 215, 217, 218, 220, 222, 223, 225, 238, 242, 243, 245, 265, 269, 270, 272, 274, 275, 277, 281, 282, 284, 288, 289, 298, 300, 301, 346, 350, 351, 358, 359, 365, 367, 368, 375, 379, 380, 383, 385, 386, 388, 392, 393, 401, 403, 407, 408, 420, 424, 425, 427, 431, 432, 434, 438, 439, 441, 445, 446, 488, 489, 494, 503, 507, 508, 520, 522, 523, 525, 529, 530, 532, 536, 537, 560, 561, 574, 575, 586, 587, 593, 600, 604, 605, 607, 608, 614, 619, 622, 626, 627, 629, 633, 634, 636, 637, 648, 649, 665, 669, 670, 672, 676, 677, 679, 683, 684, 686, 688, 689, 691, 695, 696, 698, 702, 703, 705, 709, 710, 712, 716, 717, 719, 723, 724, 726, 730, 731, 733, 737, 738, 740, 744, 745, 747, 751, 752, 754, 758, 759]
noncomputable def K0 (P : Params) : Frag := [(2, boot_o_2 P), (3, o3_5 P), (30, o30 P), (31, o31), (43, o43), (47, o47), (48, o48), (50, o50 P), (51, o51), (62, o62), (66, o66), (67, o67), (69, o69 P), (70, o70), (81, o81), (85, o85), (86, o86), (88, o88 P), (89, o89), (100, o100), (104, o104), (105, o105), (107, o107 P), (108, o108), (119, o119), (123, o123), (124, o124), (126, o126 P), (127, o127), (138, o138), (142, o142), (143, o143), (145, o145 P), (146, o146), (176, o176 P), (177, o177), (181, o181), (185, o185), (186, o186), (188, o188), (192, o192), (193, o193), (200, o200), (204, o204), (205, o205), (213, o213 P), (215, o215), (217, o217), (218, o218), (220, o220), (222, o222), (223, o223), (225, o225), (238, o238), (242, o242), (243, o243), (245, o245), (265, o265), (269, o269), (270, o270), (272, o272), (274, o274), (275, o275), (277, o277), (281, o281), (282, o282), (284, o284), (288, o288), (289, o289), (298, o298), (300, o300), (301, o301), (346, o346), (350, o350), (351, o351), (358, o358 P), (359, o359), (365, o365), (367, o367), (368, o368), (375, o375), (379, o379), (380, o380), (383, o383), (385, o385), (386, o386), (388, o388), (392, o392), (393, o393), (401, o401), (403, o403), (407, o407), (408, o408), (420, o420), (424, o424), (425, o425), (427, o427), (431, o431), (432, o432), (434, o434), (438, o438), (439, o439), (441, o441), (445, o445), (446, o446), (488, o488 P), (489, o489), (494, o494), (503, o503), (507, o507), (508, o508), (520, o520), (522, o522), (523, o523), (525, o525), (529, o529), (530, o530), (532, o532), (536, o536), (537, o537), (560, o560 P), (561, o561), (574, o574 P), (575, o575), (586, o586 P), (587, o587), (593, o593), (600, o600), (604, o604), (605, o605), (607, o607 P), (608, o608), (614, o614), (619, o619), (622, o622), (626, o626), (627, o627), (629, o629), (633, o633), (634, o634), (636, o636 P), (637, o637), (648, o648 P), (649, o649), (665, o665), (669, o669), (670, o670), (672, o672), (676, o676), (677, o677), (679, o679), (683, o683), (684, o684), (686, o686), (688, o688), (689, o689), (691, o691), (695, o695), (696, o696), (698, o698), (702, o702), (703, o703), (705, o705), (709, o709), (710, o710), (712, o712), (716, o716), (717, o717), (719, o719), (723, o723), (724, o724), (726, o726), (730, o730), (731, o731), (733, o733), (737, o737), (738, o738), (740, o740), (744, o744), (745, o745), (747, o747), (751, o751), (752, o752), (754, o754), (758, o758), (759, o759)]
theorem ea (P : Params) : as0 = (K0 P).map (·.1) := rfl
theorem l3 (w : World) (os : OsState) : ZH.obF as0 (S5 w os) = (K0 w.params).map (fun p => some p.2) := by kernel_rfl
end K08H
set_option Elab.async false
set_option linter.all false
set_option maxRecDepth 100000
set_option maxHeartbeats 4000000
namespace K08
open PySem PySem.W PySem.Calls PyProof.Rows HandSHeadRun HX K08H
theorem l1 (w : World) (os : OsState) : looksF R.prog (boot_heap w.params) (S5 w os).abs = true := by kernel_rfl
theorem l2 (w : World) (os : OsState) : seenQ (PySem.W.view R.prog [59]) loose (importedModules R.prog.main.body) (fun s => xlAt (PySem.W.view R.prog [59]) [] s && recOk R.toRowW.records s) (S5 w os).abs = openGood (PySem.W.view R.prog [59]) loose := by kernel_rfl
def SaysF (w : World) (K : Frag) : Prop := (ZH.SaysL lams chk fn K) ∧ PV.SupSays sups (ZH.dropT lams K)
theorem f1 (w : World) : SaysF w (K0 w.params) := by
  refine ⟨?_, ?_, ?_⟩
  · show ZH.obsL lams chk fn (K0 w.params) = (He5.valA fn, true)
    kernel_rfl
  · show (sups.all fun d => d.ok (ZH.dropT lams (K0 w.params))) = true
    kernel_rfl
  · show (sups.map fun d => He5.fnA (ZH.dropT lams (K0 w.params)) (d.at_ (ZH.dropT lams (K0 w.params)))) = sups.map (PV.supV (ZH.dropT lams (K0 w.params)))
    kernel_rfl
noncomputable abbrev hkF : PySem.W.Hook := ZH.hookF as0 K0 ea SaysF f1
end K08
open PySem PySem.W PySem.Calls PyProof.Rows
set_option maxRecDepth 100000
set_option maxHeartbeats 0
theorem PySem.Challenge.cw_lapseeds_k08_ends_fit_and_take_holds : PySem.Challenge.rw_lapseeds_k08_ends_fit_and_take.Holds := by
  refine K08.pre fun said => ?_
  refine HX.head_seg (r := OpenLaw.row PySem.Challenge.rw_lapseeds_k08_ends_fit_and_take) (q := view (OpenLaw.row PySem.Challenge.rw_lapseeds_k08_ends_fit_and_take).prog [59]) (H := K08.hkF) (ob := ZH.obF K08H.as0) (loose := K08.loose) (d := HandSHeadRun.topDef (OpenLaw.row PySem.Challenge.rw_lapseeds_k08_ends_fit_and_take).prog 59) (kwd := []) (F := K08H.S5) ZH.obF_eq
    (by kernel_rfl) (fun s => by kernel_rfl) K08H.run K08.l1 K08.l2 K08H.l3 (by kernel_rfl) (by kernel_rfl) (by kernel_rfl) (by rfl) (by first | assumption | decide +kernel) (by decide +kernel) ⟨rfl, rfl, rfl, rfl, rfl, by decide +kernel⟩ ?hw ?hc
  case hw => w_witness2
  case hc =>
    refine ZL.walk_ofT (l := PySem.Challenge.rw_lapseeds_k08_ends_fit_and_take) (n := 63) (k := 9) rfl (by decide) (by kernel_rfl) ⟨rfl, by decide, by decide⟩ ?F
    intro w mg fa h Y G hmg0
    obtain ⟨Ka, Xa, c, cs⟩ := Y
    have hmg : mg ("law" : PySem.Str) = some (.ref fa) := by
      have e : (HandSHeadRun.topDef (OpenLaw.row PySem.Challenge.rw_lapseeds_k08_ends_fit_and_take).prog 59).name = ("law" : PySem.Str) := by kernel_rfl
      rw [← e]
      exact hmg0
    have c : ZH.SaysL K08.lams K08.chk K08.fn Ka := c
    have KX : (ZH.dropT K08.lams Ka).In h := ZH.dropT_in Xa
    have T := K08.tx KX G c.z cs (P := (OpenLaw.row PySem.Challenge.rw_lapseeds_k08_ends_fit_and_take).prog) ⟨rfl, by decide +kernel⟩
    have efa : fa = He.ga (ZH.dropT K08.lams Ka) "law" := by
      have z := T.glo "law" (by decide +kernel)
      rw [hmg] at z
      exact Value.ref.inj (Option.some.inj z)
    subst efa
    exact ⟨ZH.dropT K08.lams Ka, PV.csOf (ZH.dropT K08.lams Ka) K08.lams, PV.spEnd (ZH.dropT K08.lams Ka) K08.F_law, KX, PV.csOf_all KX Xa c.t,
      fun H a ns hl hH hS => (K08.e_law hl).elim fun S' e => PV.end_atT hS (PV.csOf_told c.t hH) e, fun base _ _ hB => PV.end_of (K08.w_law T)⟩
