import PyProof.Rows.All
import Wide.All
import OpenK.AllK
import Wide.FinOn
import KE.KStateDown
import HandS.Head0
import HandS.Head1
import HandS.Head2
import Open.Seg
import Open.Tree
import Wide.Once
import PySem.Challenge.RW_lapseeds_k07_laps_refused
import KE.DataCmp
import Lean
import HandS.ForMost
import HandS.Exc
import HandS.Defaults
import HandS.Star
import HandS.ClsMeth
import HandS.IsInst
import HandS.TupAny
import HandS.Style
import HandS.OwnEq
import HandS.HeadEnd
import HandS.HeadHook1
import HandS.HeadHook2
import HandS.HeadNt
import KE.GoesEnum
import KE.KFmtOwn
import HandS.Walk
import HandS.Codes
import KE.KOpsOwn
import KE.KCallOwn
import PyProof.ListMulAny
import HandS.TupMul
import HandS.HeadHook3
import HandS.Lambda
import HandS.ExcValue
import HandS.WordsExc
import HandS.Wide
import HandS.Text
import HandS.Deep
import HandS.SortInts
import HandS.Comp
import HandS.Iter
import HandS.More
import HandS.RaiseMore
import HandS.Zip
import KE.GoesZip
import HandS.MakeKwOnly
import HandS.Strs
import HandS.FStr
import HandS.Replace
import HandS.Dict
import HandS.ExcInit
import KE.KExcIs
import HandS.ExcOwn
import HandS.EndTab
import KE.KNestM
import PyProof.FactsAll.int_2
import PyProof.FactsAll.int_3
import HandS.SetFor
import HandS.ReplaceLit
import KE.KDictZip
import KE.KSuper
import PyProof.RulesMatch
import PyProof.Rows.StrRules
import HandS.TupLe
import HandS.Property
import PyProof.StrOps2
import PyProof.FactsAll.list
import PyProof.EqKinds
import PyProof.P3In
import PyProof.EqAt
import HandS.ExcInitHot
import HandS.Conv
import KE.KTupSum
import HandS.GenList
import PyProof.StrLawsIn
import PyProof.P3Eq
import PyProof.Rows.StrLawsPart
set_option Elab.async false
set_option linter.all false
set_option maxRecDepth 100000
noncomputable section
namespace HX
open PySem PySem.W PySem.Calls PyProof.Rows HandSHeadRun

section
variable (st : SharedT → Thread → Option (SharedT × Thread)) (n0 : Nat) (ann : Option Value)
def segF : Nat → SharedT → Thread → Option (Flow × SharedT × Code × Pos)
  | 0, _, _ => none
  | m + 1, s, t => match endAt 1 t with
    | some f => some (f, s, t.code, t.pos)
    | none => match stepOk n0 ann t with
      | false => none
      | true => match st s t with
        | some (s', t') => frS s' fun s' => segF m s' t'
        | none => none
def preF : Nat → SharedT → Thread → Option (SharedT × Thread)
  | 0, s, t => some (s, t)
  | m + 1, s, t => match through t with
    | true => none
    | false => match stepOk n0 ann t with
      | false => none
      | true => match st s t with
        | some (s', t') => frS s' fun s' => preF m s' t'
        | none => none
end
theorem segF_ok {tb : String → Option Builtin} {p : Program} {w : World} {n0 : Nat} {ann : Option Value} : ∀ {m : Nat} {s s' : SharedT} {t : Thread} {f : Flow} {c : Code} {q : Pos}, segF (stepT (denote tb) p w) n0 ann m s t = some (f, s', c, q) → segRun tb p w n0 ann 1 m s.abs t = some (f, s'.abs, c, q)
  | 0, _, _, _, _, _, _, h => by cases h
  | m + 1, s, s', t, f, c, q, h => by
    unfold segF at h
    unfold segRun
    cases he : endAt 1 t with
    | some x => rw [he] at h; cases h; rfl
    | none =>
      rw [he] at h
      cases hk : stepOk n0 ann t with
      | false => rw [hk] at h; cases h
      | true =>
        rw [hk] at h
        cases hs : stepT (denote tb) p w s t with
        | none => rw [hs] at h; cases h
        | some r =>
          obtain ⟨s2, t2⟩ := r
          rw [hs] at h
          have h3 : (frS s2 fun s' => segF (stepT (denote tb) p w) n0 ann m s' t2) = some (f, s', c, q) := h
          rw [frS_eq] at h3
          rw [stepT_spec hs]
          exact segF_ok h3
theorem preF_ok {tb : String → Option Builtin} {p : Program} {w : World} {n0 : Nat} {ann : Option Value} : ∀ {m : Nat} {s s' : SharedT} {t t' : Thread}, preF (stepT (denote tb) p w) n0 ann m s t = some (s', t') → topGo tb p w n0 ann m s.abs t = some (s'.abs, t')
  | 0, _, _, _, _, h => by cases h; rfl
  | m + 1, s, s', t, t', h => by
    unfold preF at h
    unfold topGo
    cases ht : through t with
    | true => rw [ht] at h; cases h
    | false =>
      rw [ht] at h
      cases hk : stepOk n0 ann t with
      | false => rw [hk] at h; cases h
      | true =>
        rw [hk] at h
        cases hs : stepT (denote tb) p w s t with
        | none => rw [hs] at h; cases h
        | some r =>
          obtain ⟨s2, t2⟩ := r
          rw [hs] at h
          have h3 : (frS s2 fun s' => preF (stepT (denote tb) p w) n0 ann m s' t2) = some (s', t') := h
          rw [frS_eq] at h3
          show (match step (denote tb) p w s.abs t with
            | .go s' t' => topGo tb p w n0 ann m s' t'
            | .halt _ _ => none) = some (s'.abs, t')
          rw [stepT_spec hs]
          exact preF_ok h3
def execsQ : List Stmt → Env → Sem Flow := PySem.W.Fast.tw12563942051412417395
theorem execsQ_eq : @execs = execsQ := PySem.W.Fast.te12563942051412417395
def startQ : List Stmt → Env → Sem Unit := PySem.W.Fast.tw1066825118222455980
theorem startQ_eq : @blockStart = startQ := PySem.W.Fast.te1066825118222455980
abbrev B1 : List Frame := [topFrame ⟨0, 0, 0, 0⟩]
def pcs (l : List Stmt) (env : Env) (c : Code) (p : Pos) : Thread := ⟨(execsQ l env).wrap doneF deadEnd id id, c, p, B1⟩
def blk (b : List Stmt) (env : Env) (c : Code) (p : Pos) : Thread := ⟨(startQ b env).wrap (fun _ => doneF .next) deadEnd id id, c, p, B1⟩
def ANN : Option Value := some (.ref 6)
theorem ann0_eq (w : World) : bootAnn w = ANN := by
  show (boot_heap w.params).nsMap mainGlobals "__annotations__" = ANN
  kernel_rfl
theorem size0 (w : World) : (boot_heap w.params).objs.size = 11 := by kernel_rfl
def bootTree (P : Params) : PySem.W.BT := match putAll (boot_heap P).objs.toList .nil 0 with
  | some (t, _) => t
  | none => .nil
theorem bootTree_ok (P : Params) : putAll (boot_heap P).objs.toList .nil 0 = some (bootTree P, 11) := by kernel_rfl
def S0 (w : World) (os : OsState) : SharedT := ⟨bootTree w.params, 11, (boot_heap w.params).life, #[], boot_drawn, boot_toks, os⟩
theorem S0_abs (w : World) (os : OsState) : (S0 w os).abs = ⟨boot_heap w.params, #[], boot_drawn, boot_toks, os⟩ := by
  show (⟨absHeap (bootTree w.params) 11 (boot_heap w.params).life, #[], boot_drawn, boot_toks, os⟩ : Shared) = _
  rw [putAll_heap (bootTree_ok w.params)]

def Pc (p : Program) (w : World) (m : Nat) (l : List Stmt) (env : Env) (c : Code) (a : SharedT) (q : Pos) (b : SharedT) (q' : Pos) : Prop :=
  segF (stepQ (denQ tabQ) p w) 11 ANN m a (pcs l env c q) = some (.next, b, c, q')
section
variable {p : Program} {w : World}
theorem pc_run {m : Nat} {l : List Stmt} {env : Env} {c : Code} {a b : SharedT} {q q' : Pos} (h : Pc p w m l env c a q b q') :
    segRun treeTable p w 11 ANN 1 m a.abs (piecesOf l env c q B1) = some (.next, b.abs, c, q') := by
  unfold Pc pcs at h
  rw [← stepQ_eq, ← denQ_eq, ← tabQ_eq, ← execsQ_eq] at h
  exact segF_ok h
theorem pc_cons {m N : Nat} {l rest : List Stmt} {env : Env} {c : Code} {a b : SharedT} {r : Shared} {q q' : Pos} (h : Pc p w m l env c a q b q')
    (k : topRun treeTable p w 11 ANN N b.abs (restOf rest env c q' B1) = some r) : topRun treeTable p w 11 ANN (m + N) a.abs (restOf (l ++ rest) env c q B1) = some r :=
  piece_app (pc_run h) k
theorem pc_nil {env : Env} {c : Code} {s : Shared} {q : Pos} : topRun treeTable p w 11 ANN 3 s (restOf [] env c q B1) = some s := by
  obtain ⟨heap, gens, drawn, toks, os⟩ := s
  exact piece_nil rfl
theorem pc_first {m N : Nat} {b : List Stmt} {env : Env} {a : SharedT} {r : Shared} {q q' : Pos} {os : OsState}
    (h : preF (stepQ (denQ tabQ) p w) 11 ANN m (S0 w os) (topStub p) = some (a, ⟨denQ tabQ (.body b env), .body b env, q, B1⟩))
    (hb : segF (stepQ (denQ tabQ) p w) 11 ANN 50 a (blk b env (.body b env) q) = some (.next, a, .body b env, q'))
    (k : topRun treeTable p w 11 ANN N a.abs (restOf b env (.body b env) q' B1) = some r) :
    topRun treeTable p w (boot_heap w.params).objs.size (bootAnn w) (m + (50 + N)) ⟨boot_heap w.params, #[], boot_drawn, boot_toks, os⟩ (topStub p) = some r := by
  rw [size0, ann0_eq w, ← S0_abs]
  rw [← stepQ_eq, ← denQ_eq, ← tabQ_eq] at h hb
  unfold blk at hb
  rw [← startQ_eq] at hb
  exact go_top (preF_ok h) (piece_block (segF_ok hb) k)
end
theorem left_seg {p q : Program} {loose : List Str} {Xt : Shared → Bool} {α : Type} {Yf : Shared → α} {Ya : World → α} {N M : Nat} {F : World → OsState → SharedT}
    (e : opening p = plainProg p.main.scope.names) (hN : Nat.ble 600 N = true) (f : ∀ s, fenceModules? p s = some s) (le : Nat.ble M N = true)
    (run : ∀ (w : World) (os : OsState), topRun treeTable p w (boot_heap w.params).objs.size (bootAnn w) M ⟨boot_heap w.params, #[], boot_drawn, boot_toks, os⟩ (topStub p) = some (F w os).abs)
    (l1 : ∀ (w : World) (os : OsState), looksF p (boot_heap w.params) (F w os).abs = true)
    (l2 : ∀ (w : World) (os : OsState), openSeen q loose (importedModules p.main.body) Xt true (F w os).abs = openGood q loose)
    (l3 : ∀ (w : World) (os : OsState), Yf (F w os).abs = Ya w) :
    LeftO p q loose Xt Yf Ya N true := fun w => by
  obtain ⟨⟨h, gs, d, k, os⟩, a, a'⟩ := Option.map_eq_some_iff.mp (boot_open e hN f w)
  obtain ⟨rfl, rfl, rfl, rfl⟩ : h = boot_heap w.params ∧ gs = Array.mk [] ∧ d = boot_drawn ∧ k = boot_toks := by simpa using a'
  have r := topRun_mono (N - M) _ _ _ _ (run w os)
  rw [show M + (N - M) = N by have := Nat.le_of_ble_eq_true le; omega] at r
  have l1' : (staticsOk (importedModules p.main.body) (boot_heap w.params) (F w os).abs.heap && namesBound p (F w os).abs.heap && gensDone (F w os).abs && laidKept (boot_heap w.params) (F w os).abs.heap) = true := l1 w os
  have t : topFrom treeTable p w N ⟨boot_heap w.params, Array.mk [], boot_drawn, boot_toks, os⟩ = some (F w os).abs := by
    unfold topFrom
    dsimp only
    rw [boot_ns]
    show (topRun treeTable p w (boot_heap w.params).objs.size (bootAnn w) N ⟨boot_heap w.params, #[], boot_drawn, boot_toks, os⟩ (topStub p)).bind _ = _
    rw [r]
    show (match staticsOk (importedModules p.main.body) (boot_heap w.params) (F w os).abs.heap && namesBound p (F w os).abs.heap && gensDone (F w os).abs && laidKept (boot_heap w.params) (F w os).abs.heap with | true => some (F w os).abs | false => none) = _
    rw [l1']
  unfold openEnds
  rw [a]
  show (topFrom treeTable p w N _).map _ = _
  rw [t]
  exact congrArg some (Prod.ext (l2 w os) (l3 w os))
theorem head_seg {r : OpenRow} {q : Program} {H : Hook} {ob : SharedT → H.α} {M : Nat} {loose : List PySem.Str} {d : DefRec} {kwd : List (PySem.Str × PySem.Expr)} {F : World → OsState → SharedT} (ho : ∀ s : SharedT, ob s = H.obs s.abs)
    (e : opening r.prog = plainProg r.prog.main.scope.names) (f : ∀ s, fenceModules? r.prog s = some s)
    (run : ∀ (w : World) (os : OsState), topRun treeTable r.prog w (boot_heap w.params).objs.size (bootAnn w) M ⟨boot_heap w.params, #[], boot_drawn, boot_toks, os⟩ (topStub r.prog) = some (F w os).abs)
    (l1 : ∀ (w : World) (os : OsState), looksF r.prog (boot_heap w.params) (F w os).abs = true)
    (l2 : ∀ (w : World) (os : OsState), seenQ q loose (importedModules r.prog.main.body) (fun s => xlAt q [] s && recOk r.toRowW.records s) (F w os).abs = openGood q loose)
    (l3 : ∀ (w : World) (os : OsState), ob (F w os) = H.val w)
    (hdef : defOf q r.name = some (d, kwd)) (hp : r.prog.theDef r.name = some (d.params, d.body, d.scope)) (hk : kwWritten? d.params.kwonlyargs d.params.kw_defaults = some kwd)
    (hwr : (!r.writes || r.records.isEmpty) = true) (k1 : r.wellSaid = true) (ok : (chainsOk q && opensWell r.prog && (frees r.toRowW && r.within.isEmpty)) = true) (hb : r.prog.bare) (hw : r.toRowW.promised)
    (call : WalkO q loose (XL q []) H.says r.toRowW d kwd fun f vs => PySem.call f vs) : r.Holds := by
  have left : LeftO r.prog q loose (fun s => xlAt q [] s && recOk r.toRowW.records s) H.obs H.val (M + 600) true :=
    left_seg (M := M) e (Nat.ble_eq_true_of_le (by omega)) f (Nat.ble_eq_true_of_le (by omega)) run l1 (fun w os => by
      rw [seenQ_eq]
      exact l2 w os) fun w os => by
      rw [← ho]
      exact l3 w os
  exact holds_open (r := r) (q := q) (loose := loose) (XP := XL q []) (YP := H.says) (d := d) (kwd := kwd) left H.of H.keeps (fun s z => xl_of s (Bool.and_eq_true_iff.mp z).1) XL.keeps hdef hp hk (fun s z => recFacts_of (Bool.and_eq_true_iff.mp z).2) hwr k1 ok hb hw call

abbrev s (x : Str) (n : Nat) : Value := .str x n
abbrev r (n : Nat) : Value := .ref n
abbrev i (k : Int) : Value := .int k 0
abbrev ty (x : String) : Value := .type x
abbrev bi (x : String) : Value := .builtin x
abbrev tu (l : List Value) : Obj := ⟨.type "tuple", none, .seq l.toArray 0, #[]⟩
abbrev fi (l : List Value) : Obj := ⟨.none, none, .fields l.toArray, #[]⟩
abbrev fo (x : String) (l : List Value) : Obj := ⟨.type x, none, .fields l.toArray, #[]⟩
abbrev di (l : List DictEntry) (n : Nat) : Obj := ⟨.type "dict", none, .dict l.toArray n, #[]⟩
abbrev en (P : Params) (x : Str) (n : Nat) (v : Value) : DictEntry := ⟨PyData.keyHash P x, .str x n, v⟩
abbrev lf (o : Obj) : PySem.W.BT := .node o .nil .nil
abbrev nd (o : Obj) (l r : PySem.W.BT) : PySem.W.BT := .node o l r
def fA : Stmt → Arguments
  | .FunctionDef _ a _ _ _ _ _ _ _ _ => a
  | _ => ⟨[], [], none, [], [], none, []⟩
def fB : Stmt → List Stmt
  | .FunctionDef _ _ b _ _ _ _ _ _ _ => b
  | _ => []
def fS : Stmt → Scope
  | .FunctionDef _ _ _ _ _ _ sc _ _ _ => sc
  | _ => ⟨.function, [], false, false, []⟩
def fC : Stmt → List Stmt
  | .ClassDef (body := b) .. => b
  | _ => []
def stD : Stmt := .Pass ⟨0, 0, 0, 0⟩
def stA (l : List Stmt) (i : Nat) : Stmt := (l[i]?).getD stD
abbrev fu (c : Value) (nm qn : Str) (st : Stmt) (gl : Addr) (cl : List (Str × Addr)) (df kd dc md : Value) (an : Option Addr) (cd ct : Value) (b : Addr) : Obj :=
  ⟨c, none, .func ⟨nm, qn, fA st, .stmts (fB st), fS st, gl, cl, df, kd, dc, md, an, cd, ct, b⟩, #[]⟩
def grp (l : List Stmt) (a b : Nat) : List Stmt := (l.drop a).take b
end HX
set_option Elab.async false
set_option linter.all false
set_option maxRecDepth 100000
set_option maxHeartbeats 0
namespace K07
open PySem PySem.W PySem.Calls PyProof.Rows
theorem pre (h : PySem.Challenge.rw_lapseeds_k07_laps_refused.row.wellSaid = true → PySem.Challenge.rw_lapseeds_k07_laps_refused.row.Holds) : PySem.Challenge.rw_lapseeds_k07_laps_refused.Holds := by
  w_on; o_law
  exact h ‹_›
theorem pre0 : opening (OpenLaw.row PySem.Challenge.rw_lapseeds_k07_laps_refused).prog = plainProg (OpenLaw.row PySem.Challenge.rw_lapseeds_k07_laps_refused).prog.main.scope.names := by kernel_rfl
theorem preB : (OpenLaw.row PySem.Challenge.rw_lapseeds_k07_laps_refused).prog.bare := ⟨rfl, rfl, rfl, rfl, rfl, by decide +kernel⟩
end K07
set_option Elab.async false
set_option linter.all false
set_option maxRecDepth 100000
set_option maxHeartbeats 4000000
namespace K07H
open PySem PySem.W PySem.Calls PyProof.Rows HandSHeadRun HX
noncomputable section
open PySem.Value renaming none → vn
abbrev vT : Value := Value.bool true
abbrev ct (a : Str) (n : Nat) (b : Str) (n2 n3 : Nat) (k1 k2 k3 k4 k5 : Int) (r1 : Nat) (t : Bool) (k6 : Int) (r2 : Nat) (x1 x2 x3 : Value) (k7 k8 : Int) (n4 : Nat) : Obj := fo "code" [s a n, s b n2, s "/claim/cut.py" n3, i k1, i k2, i k3, i k4, i k5, r r1, Value.bool t, i k6, r r2, vn, x1, x2, x3, i k7, i k8, s "/claim/cut.py" n4]
abbrev f0 (a b : Str) (d : Stmt) (g n : Nat) : Obj := fu vn a b d g [] vn vn vn vn none vn vn n
abbrev f1 (a b : Str) (d : Stmt) (g : Nat) (m : Value) (c n : Nat) : Obj := fu (ty "function") a b d g [] vn vn vn m none (r c) vn n
abbrev n1 (a b : Obj) : BT := nd a (lf b) .nil
abbrev n2 (a b c : Obj) : BT := nd a (lf b) (lf c)
abbrev n6 (a b c d e f g : Obj) : BT := nd a (n2 b c d) (n2 e f g)
abbrev m418 : Value := s "law_lapseeds_k07_laps_refused" 418
abbrev m205 : Value := s "lapseeds.errors" 205
abbrev m291 : Value := s "lapseeds.laps" 291
abbrev b0 : Value := ty "type"
abbrev b1 : Value := ty "frame"
abbrev b2 : Value := ty "ValueError"
abbrev b3 : Value := ty "object"
abbrev b4 : Value := bi "type.__prepare__"
abbrev b5 : Value := bi "object.__init_subclass__"
abbrev b6 : Value := ty "Exception"
abbrev b7 : Value := ty "BaseException"
abbrev b8 : Value := bi "ValueError.__new__"
abbrev kf : Str := "__firstlineno__"
abbrev ka : Str := "__static_attributes__"
abbrev km : Str := "__module__"
abbrev kq : Str := "__qualname__"
def body : List Stmt := PySem.Challenge.pw_lapseeds_k07_laps_refused.main.body
def d0 : Stmt := stA body 1
def d1 : Stmt := stA body 2
def d2 : Stmt := stA (fC (stA body 5)) 0
def d3 : Stmt := stA (fC (stA body 6)) 0
def d4 : Stmt := stA body 10
def d5 : Stmt := stA (fC (stA body 11)) 0
def d6 : Stmt := stA (fC (stA body 11)) 1
def d7 : Stmt := stA (fC (stA body 11)) 2
def d8 : Stmt := stA (fC (stA body 11)) 3
def d9 : Stmt := stA (fC (stA body 11)) 4
def d10 : Stmt := stA (fC (stA body 11)) 5
def d11 : Stmt := stA (fC (stA body 11)) 6
def d12 : Stmt := stA (fC (stA body 11)) 7
def d13 : Stmt := stA (fC (stA body 11)) 8
def d14 : Stmt := stA (fC (stA body 11)) 9
def d15 : Stmt := stA (fC (stA body 11)) 10
def d16 : Stmt := stA (fC (stA body 11)) 11
def d17 : Stmt := stA body 13
def d18 : Stmt := stA body 14
def d19 : Stmt := stA body 15
def d20 : Stmt := stA body 16
def d21 : Stmt := stA body 17
def d22 : Stmt := stA body 18
def d23 : Stmt := stA body 19
def d24 : Stmt := stA body 20
def o11 := tu []
def o12 := fi []
def o13 := ct "<module>" 182 "<module>" 183 184 1 0 0 0 0 11 false 181 12 vn vn vn 185 1 186
def o14 := (Obj.mk b1 none Data.plain #[(some (r 13)), (some (r 3)), (some (r 3)), none, (some (s "__main__" 164)), none, (some (r 0))])
def T0 (P : Params) : BT := nd (boot_o_0 P) (n6 (boot_o_1 P) (boot_o_3 P) (boot_o_7 P) o11 (boot_o_5 P) (boot_o_9 P) o13) (n6 (boot_o_2 P) (boot_o_4 P) (boot_o_8 P) o12 (boot_o_6 P) (boot_o_10 P) o14)
def S0 (w : World) (os : OsState) : SharedT := ⟨T0 w.params, 15, (boot_heap w.params).life, #[], boot_drawn, 187, os⟩
def o3_1 (P : Params) := di [en P "__name__" 165 m418, en P "__doc__" 166 vn, en P "__package__" 167 vn, en P "__loader__" 168 (bi "__main__.__loader__#opaque"), en P "__spec__" 169 vn, en P "__annotations__" 170 (r 6), en P "__builtins__" 171 (r 4), en P "__file__" 173 (s "/claim/cut.py" 172), en P "__cached__" 174 vn, en P "is_whole" 195 (r 21), en P "is_between" 204 (r 28), en P "LapError" 224 (r 38), en P "BadPit" 249 (r 58), en P "BadNumber" 274 (r 77), en P "Nothing" 290 (r 89), en P "LAST_PIT" 294 (Value.int 5 293), en P "need_seeds" 302 (r 98), en P "Lap" 417 (r 188), en P "_law_bag" 428 (r 199), en P "_law_draw" 439 (r 206), en P "_law_pick" 447 (r 213), en P "_law_heard" 456 (r 220), en P "_law_three" 463 (r 227), en P "_law_pits_right" 477 (r 234), en P "_law_seeds_right" 491 (r 241), en P "law" 502 (r 248)] 26
def o12_1 := fi [(i 2), (i 0), (r 20), (i 4), (i 0), (r 27), (i 7), (i 0), (r 34), (i 9), (i 0), (r 47), (i 13), (i 0), (r 66), (i 17), (i 0), (r 85), (i 21), (i 0), (r 97), (i 24), (i 0), (r 104), (i 76), (i 0), (r 198), (i 81), (i 0), (r 205), (i 95), (i 0), (r 212), (i 97), (i 0), (r 219), (i 108), (i 0), (r 226), (i 110), (i 0), (r 233), (i 122), (i 0), (r 240), (i 139), (i 0), (r 247)]
def o15 := tu []
def o16 := fi []
def o17 := tu [(s "value" 192)]
def o18 := tu []
def o19 := f0 "is_whole" "is_whole" d0 0 0
def o20 := ct "is_whole" 189 "is_whole" 190 191 2 1 0 0 3 15 true 181 16 (r 17) (r 18) (r 19) 193 2 194
def o21 := f1 "is_whole" "is_whole" d0 3 (s "lapseeds.checks" 187) 20 0
def o22 := tu []
def o23 := fi []
def o24 := tu [(s "value" 199), (s "low" 200), (s "high" 201)]
def o25 := tu []
def o26 := f0 "is_between" "is_between" d1 0 0
def o27 := ct "is_between" 196 "is_between" 197 198 4 3 0 0 3 22 true 181 23 (r 24) (r 25) (r 26) 202 4 203
def o28 := f1 "is_between" "is_between" d1 3 (s "lapseeds.checks" 187) 27 0
def o29 := tu [b2]
def o30 := fo "builtin_function_or_method" [b4, b0]
def o31 (P : Params) := di [en P km 214 m205, en P kq 216 (s "LapError" 215), en P kf 218 (Value.int 7 217), en P ka 219 (r 36)] 4
def o32 := tu []
def o33 := fi []
def o34 := ct "LapError" 209 "LapError" 210 211 7 0 0 0 0 32 false 181 33 vn vn vn 212 7 213
def o35 := (Obj.mk b1 none Data.plain #[(some (r 34)), (some (r 3)), (some (r 31)), none, (some m205), none, (some (r 0))])
def o36 := tu []
def o37 (P : Params) := di [en P km 214 m205, en P kf 218 (Value.int 7 217), en P ka 219 (r 36), en P "__weakref__" 221 (r 39), en P "__doc__" 222 vn] 3
def o38 := (Obj.mk b0 none (Data.cls (ClassData.mk "LapError" [b2] [(r 38), b2, b6, b7, b3] 37 "LapError" true [] [(r 58), (r 77), (r 89)] false none false)) #[(some (r 29)), none, (some (s "LapError" 207)), (some (s "LapError" 215)), (some b8), (some vT)])
def o39 := fo "getset_descriptor" [(s "__weakref__" 220), (r 38), (bi "ExceptionGroup.__weakref__"), vn]
def o40 := fo "super" [(r 38), (r 38), (r 38)]
def o41 := fo "builtin_function_or_method" [b5, (r 38)]
def o42 := tu [(r 38)]
def o43 := fo "builtin_function_or_method" [b4, b0]
def o44 (P : Params) := di [en P km 232 m205, en P kq 234 (s "BadPit" 233), en P kf 236 (Value.int 9 235), en P "__init__" 244 (r 55), en P ka 246 (r 56)] 5
def o45 := tu []
def o46 := fi [(i 11), (i 4), (r 54)]
def o47 := ct "BadPit" 227 "BadPit" 228 229 9 0 0 0 0 45 false 181 46 vn vn vn 230 9 231
def o48 := (Obj.mk b1 none Data.plain #[(some (r 47)), (some (r 3)), (some (r 44)), none, (some m205), none, (some (r 0))])
def o49 := tu []
def o50 := fi []
def o51 := tu [(s "self" 240), (s "value" 241)]
def o52 := tu []
def o53 := f0 "__init__" "BadPit.__init__" d2 0 0
def o54 := ct "__init__" 237 "BadPit.__init__" 238 239 11 2 0 0 3 49 true 181 50 (r 51) (r 52) (r 53) 242 11 243
def o55 := f1 "__init__" "BadPit.__init__" d2 3 m205 54 0
def o56 := tu [(s "value" 245)]
def o57 (P : Params) := di [en P km 232 m205, en P kf 236 (Value.int 9 235), en P "__init__" 244 (r 55), en P ka 246 (r 56), en P "__doc__" 247 vn] 2
def o58 := (Obj.mk b0 none (Data.cls (ClassData.mk "BadPit" [(r 38)] [(r 58), (r 38), b2, b6, b7, b3] 57 "BadPit" true [] [] false none false)) #[(some (r 42)), none, (some (s "BadPit" 225)), (some (s "BadPit" 233)), (some b8), (some vT)])
def o59 := fo "super" [(r 58), (r 58), (r 58)]
def o60 := fo "builtin_function_or_method" [b5, (r 58)]
def o61 := tu [(r 38)]
def o62 := fo "builtin_function_or_method" [b4, b0]
def o63 (P : Params) := di [en P km 257 m205, en P kq 259 (s "BadNumber" 258), en P kf 261 (Value.int 13 260), en P "__init__" 269 (r 74), en P ka 271 (r 75)] 5
def o64 := tu []
def o65 := fi [(i 15), (i 4), (r 73)]
def o66 := ct "BadNumber" 252 "BadNumber" 253 254 13 0 0 0 0 64 false 181 65 vn vn vn 255 13 256
def o67 := (Obj.mk b1 none Data.plain #[(some (r 66)), (some (r 3)), (some (r 63)), none, (some m205), none, (some (r 0))])
def o68 := tu []
def o69 := fi []
def o70 := tu [(s "self" 265), (s "value" 266)]
def o71 := tu []
def o72 := f0 "__init__" "BadNumber.__init__" d3 0 0
def o73 := ct "__init__" 262 "BadNumber.__init__" 263 264 15 2 0 0 3 68 true 181 69 (r 70) (r 71) (r 72) 267 15 268
def o74 := f1 "__init__" "BadNumber.__init__" d3 3 m205 73 0
def o75 := tu [(s "value" 270)]
def o76 (P : Params) := di [en P km 257 m205, en P kf 261 (Value.int 13 260), en P "__init__" 269 (r 74), en P ka 271 (r 75), en P "__doc__" 272 vn] 2
def o77 := (Obj.mk b0 none (Data.cls (ClassData.mk "BadNumber" [(r 38)] [(r 77), (r 38), b2, b6, b7, b3] 76 "BadNumber" true [] [] false none false)) #[(some (r 61)), none, (some (s "BadNumber" 250)), (some (s "BadNumber" 258)), (some b8), (some vT)])
def o78 := fo "super" [(r 77), (r 77), (r 77)]
def o79 := fo "builtin_function_or_method" [b5, (r 77)]
def o80 := tu [(r 38)]
def o81 := fo "builtin_function_or_method" [b4, b0]
def o82 (P : Params) := di [en P km 282 m205, en P kq 284 (s "Nothing" 283), en P kf 286 (Value.int 17 285), en P ka 287 (r 87)] 4
def o83 := tu []
def o84 := fi []
def o85 := ct "Nothing" 277 "Nothing" 278 279 17 0 0 0 0 83 false 181 84 vn vn vn 280 17 281
def o86 := (Obj.mk b1 none Data.plain #[(some (r 85)), (some (r 3)), (some (r 82)), none, (some m205), none, (some (r 0))])
def o87 := tu []
def o88 (P : Params) := di [en P km 282 m205, en P kf 286 (Value.int 17 285), en P ka 287 (r 87), en P "__doc__" 288 vn] 2
def o89 := (Obj.mk b0 none (Data.cls (ClassData.mk "Nothing" [(r 38)] [(r 89), (r 38), b2, b6, b7, b3] 88 "Nothing" true [] [] false none false)) #[(some (r 80)), none, (some (s "Nothing" 275)), (some (s "Nothing" 283)), (some b8), (some vT)])
def o90 := fo "super" [(r 89), (r 89), (r 89)]
def o91 := fo "builtin_function_or_method" [b5, (r 89)]
def o92 := tu []
def o93 := fi []
def o94 := tu [(s "seeds" 298), (s "low" 299)]
def o95 := tu []
def o96 := f0 "need_seeds" "need_seeds" d4 0 0
def o97 := ct "need_seeds" 295 "need_seeds" 296 297 21 2 0 0 3 92 true 181 93 (r 94) (r 95) (r 96) 300 21 301
def o98 := f1 "need_seeds" "need_seeds" d4 3 m291 97 0
def o99 := tu []
def o100 := fo "builtin_function_or_method" [b4, b0]
def o101 (P : Params) := di [en P km 310 m291, en P kq 312 (s "Lap" 311), en P kf 314 (Value.int 24 313), en P "__init__" 324 (r 112), en P "laid" 330 (r 117), en P "each" 339 (r 124), en P "last" 347 (r 131), en P "__rfloordiv__" 355 (r 138), en P "__rmod__" 363 (r 145), en P "__len__" 370 (r 152), en P "__iter__" 377 (r 159), en P "__contains__" 385 (r 166), en P "__getitem__" 393 (r 173), en P "__eq__" 401 (r 180), en P "__str__" 407 (r 185), en P ka 409 (r 186)] 16
def o102 := tu []
def o103 := fi [(i 26), (i 4), (r 111), (i 34), (i 4), (r 116), (i 39), (i 4), (r 123), (i 44), (i 4), (r 130), (i 48), (i 4), (r 137), (i 52), (i 4), (r 144), (i 56), (i 4), (r 151), (i 59), (i 4), (r 158), (i 62), (i 4), (r 165), (i 65), (i 4), (r 172), (i 70), (i 4), (r 179), (i 73), (i 4), (r 184)]
def o104 := ct "Lap" 305 "Lap" 306 307 24 0 0 0 0 102 false 181 103 vn vn vn 308 24 309
def o105 := (Obj.mk b1 none Data.plain #[(some (r 104)), (some (r 3)), (some (r 101)), none, (some m291), none, (some (r 0))])
def o106 := tu []
def o107 := fi []
def o108 := tu [(s "self" 318), (s "pits" 319), (s "at" 320), (s "pit" 321)]
def o109 := tu []
def o110 := f0 "__init__" "Lap.__init__" d5 0 0
def o111 := ct "__init__" 315 "Lap.__init__" 316 317 26 1 0 0 7 106 true 181 107 (r 108) (r 109) (r 110) 322 26 323
def o112 := f1 "__init__" "Lap.__init__" d5 3 m291 111 0
def o113 := tu []
def o114 := fi []
def o115 := f0 "laid" "Lap.laid" d6 0 0
def o116 := ct "laid" 325 "Lap.laid" 326 327 34 2 0 0 3 113 true 181 114 vn vn (r 115) 328 34 329
def o117 := f1 "laid" "Lap.laid" d6 3 m291 116 0
def o118 := tu []
def o119 := fi []
def o120 := tu [(s "self" 334), (s "seeds" 335), (s "at" 336)]
def o121 := tu []
def o122 := f0 "each" "Lap.each" d7 0 0
def o123 := ct "each" 331 "Lap.each" 332 333 39 2 0 0 35 118 true 181 119 (r 120) (r 121) (r 122) 337 39 338
def o124 := f1 "each" "Lap.each" d7 3 m291 123 0
def o125 := tu []
def o126 := fi []
def o127 := tu [(s "self" 343), (s "seeds" 344)]
def o128 := tu []
def o129 := f0 "last" "Lap.last" d8 0 0
def o130 := ct "last" 340 "Lap.last" 341 342 44 2 0 0 3 125 true 181 126 (r 127) (r 128) (r 129) 345 44 346
def o131 := f1 "last" "Lap.last" d8 3 m291 130 0
def o132 := tu []
def o133 := fi []
def o134 := tu [(s "self" 351), (s "seeds" 352)]
def o135 := tu []
def o136 := f0 "__rfloordiv__" "Lap.__rfloordiv__" d9 0 0
def o137 := ct "__rfloordiv__" 348 "Lap.__rfloordiv__" 349 350 48 2 0 0 3 132 true 181 133 (r 134) (r 135) (r 136) 353 48 354
def o138 := f1 "__rfloordiv__" "Lap.__rfloordiv__" d9 3 m291 137 0
def o139 := tu []
def o140 := fi []
def o141 := tu [(s "self" 359), (s "seeds" 360)]
def o142 := tu []
def o143 := f0 "__rmod__" "Lap.__rmod__" d10 0 0
def o144 := ct "__rmod__" 356 "Lap.__rmod__" 357 358 52 2 0 0 3 139 true 181 140 (r 141) (r 142) (r 143) 361 52 362
def o145 := f1 "__rmod__" "Lap.__rmod__" d10 3 m291 144 0
def o146 := tu []
def o147 := fi []
def o148 := tu [(s "self" 367)]
def o149 := tu []
def o150 := f0 "__len__" "Lap.__len__" d11 0 0
def o151 := ct "__len__" 364 "Lap.__len__" 365 366 56 1 0 0 3 146 true 181 147 (r 148) (r 149) (r 150) 368 56 369
def o152 := f1 "__len__" "Lap.__len__" d11 3 m291 151 0
def o153 := tu []
def o154 := fi []
def o155 := tu [(s "self" 374)]
def o156 := tu []
def o157 := f0 "__iter__" "Lap.__iter__" d12 0 0
def o158 := ct "__iter__" 371 "Lap.__iter__" 372 373 59 1 0 0 3 153 true 181 154 (r 155) (r 156) (r 157) 375 59 376
def o159 := f1 "__iter__" "Lap.__iter__" d12 3 m291 158 0
def o160 := tu []
def o161 := fi []
def o162 := tu [(s "self" 381), (s "pit" 382)]
def o163 := tu []
def o164 := f0 "__contains__" "Lap.__contains__" d13 0 0
def o165 := ct "__contains__" 378 "Lap.__contains__" 379 380 62 2 0 0 3 160 true 181 161 (r 162) (r 163) (r 164) 383 62 384
def o166 := f1 "__contains__" "Lap.__contains__" d13 3 m291 165 0
def o167 := tu []
def o168 := fi []
def o169 := tu [(s "self" 389), (s "k" 390)]
def o170 := tu []
def o171 := f0 "__getitem__" "Lap.__getitem__" d14 0 0
def o172 := ct "__getitem__" 386 "Lap.__getitem__" 387 388 65 2 0 0 3 167 true 181 168 (r 169) (r 170) (r 171) 391 65 392
def o173 := f1 "__getitem__" "Lap.__getitem__" d14 3 m291 172 0
def o174 := tu []
def o175 := fi []
def o176 := tu [(s "self" 397), (s "other" 398)]
def o177 := tu []
def o178 := f0 "__eq__" "Lap.__eq__" d15 0 0
def o179 := ct "__eq__" 394 "Lap.__eq__" 395 396 70 2 0 0 3 174 true 181 175 (r 176) (r 177) (r 178) 399 70 400
def o180 := f1 "__eq__" "Lap.__eq__" d15 3 m291 179 0
def o181 := tu []
def o182 := fi []
def o183 := f0 "__str__" "Lap.__str__" d16 0 0
def o184 := ct "__str__" 402 "Lap.__str__" 403 404 73 1 0 0 3 181 true 181 182 vn vn (r 183) 405 73 406
def o185 := f1 "__str__" "Lap.__str__" d16 3 m291 184 0
def o186 := tu [(s "pits" 408)]
def o187 (P : Params) := di [en P km 310 m291, en P kf 314 (Value.int 24 313), en P "__init__" 324 (r 112), en P "laid" 330 (r 117), en P "each" 339 (r 124), en P "last" 347 (r 131), en P "__rfloordiv__" 355 (r 138), en P "__rmod__" 363 (r 145), en P "__len__" 370 (r 152), en P "__iter__" 377 (r 159), en P "__contains__" 385 (r 166), en P "__getitem__" 393 (r 173), en P "__eq__" 401 (r 180), en P "__str__" 407 (r 185), en P ka 409 (r 186), en P "__dict__" 411 (r 189), en P "__weakref__" 413 (r 190), en P "__doc__" 414 vn, en P "__hash__" 415 vn] 5
def o188 := (Obj.mk b0 none (Data.cls (ClassData.mk "Lap" [b3] [(r 188), b3] 187 "Lap" true [] [] false none false)) #[none, none, (some (s "Lap" 303)), (some (s "Lap" 311)), (some (bi "object.__new__")), (some vT)])
def o189 := fo "getset_descriptor" [(s "__dict__" 410), (r 188), (bi "function.__dict__"), (bi "function.__dict__#set")]
def o190 := fo "getset_descriptor" [(s "__weakref__" 412), (r 188), (bi "ExceptionGroup.__weakref__"), vn]
def o191 := fo "super" [(r 188), (r 188), (r 188)]
def o192 := fo "builtin_function_or_method" [b5, (r 188)]
def o193 := tu []
def o194 := fi []
def o195 := tu [(s "_law_script" 423), (s "_law_state" 424), (s "_law_cell" 425)]
def o196 := tu []
def o197 := f0 "_law_bag" "_law_bag" d17 0 0
def o198 := ct "_law_bag" 420 "_law_bag" 421 422 76 1 0 0 3 193 true 181 194 (r 195) (r 196) (r 197) 426 76 427
def o199 := f1 "_law_bag" "_law_bag" d17 3 m418 198 0
def o200 := tu []
def o201 := fi []
def o202 := tu [(s "_law_bag_here" 432), (s "_law_limit" 433), (s "_law_cell" 434), (s "_law_mixed" 435), (s "_law_found" 436)]
def o203 := tu []
def o204 := f0 "_law_draw" "_law_draw" d18 0 0
def o205 := ct "_law_draw" 429 "_law_draw" 430 431 81 2 0 0 3 200 true 181 201 (r 202) (r 203) (r 204) 437 81 438
def o206 := f1 "_law_draw" "_law_draw" d18 3 m418 205 0
def o207 := tu []
def o208 := fi []
def o209 := tu [(s "_law_bag_here" 443), (s "_law_some" 444)]
def o210 := tu []
def o211 := f0 "_law_pick" "_law_pick" d19 0 0
def o212 := ct "_law_pick" 440 "_law_pick" 441 442 95 2 0 0 3 207 true 181 208 (r 209) (r 210) (r 211) 445 95 446
def o213 := f1 "_law_pick" "_law_pick" d19 3 m418 212 0
def o214 := tu []
def o215 := fi []
def o216 := tu [(s "_law_ask" 451), (s "_law_caught" 452), (s "error" 453)]
def o217 := tu []
def o218 := f0 "_law_heard" "_law_heard" d20 0 0
def o219 := ct "_law_heard" 448 "_law_heard" 449 450 97 1 0 0 3 214 true 181 215 (r 216) (r 217) (r 218) 454 97 455
def o220 := f1 "_law_heard" "_law_heard" d20 3 m418 219 0
def o221 := tu []
def o222 := fi []
def o223 := tu [(s "_law_some" 460)]
def o224 := tu []
def o225 := f0 "_law_three" "_law_three" d21 0 0
def o226 := ct "_law_three" 457 "_law_three" 458 459 108 1 0 0 3 221 true 181 222 (r 223) (r 224) (r 225) 461 108 462
def o227 := f1 "_law_three" "_law_three" d21 3 m418 226 0
def o228 := tu []
def o229 := fi []
def o230 := tu [(s "_law_bag_here" 467), (s "_law_right" 468), (s "_law_at" 469), (s "_law_later" 470), (s "_law_odd" 471), (s "_law_due" 472)]
def o231 := tu [(s "_law_some" 473), (s "_law_twice" 474)]
def o232 := f0 "_law_pits_right" "_law_pits_right" d22 0 0
def o233 := ct "_law_pits_right" 464 "_law_pits_right" 465 466 110 1 0 0 3 228 true 181 229 (r 230) (r 231) (r 232) 475 110 476
def o234 := f1 "_law_pits_right" "_law_pits_right" d22 3 m418 233 0
def o235 := tu []
def o236 := fi []
def o237 := tu [(s "_law_bag_here" 481), (s "_law_lap_so" 482), (s "_law_heard_here" 483), (s "_law_lent" 484)]
def o238 := tu [(s "_law_lap_so" 485), (s "_law_k" 486), (s "_law_odd" 487), (s "_law_text" 488)]
def o239 := f0 "_law_seeds_right" "_law_seeds_right" d23 0 0
def o240 := ct "_law_seeds_right" 478 "_law_seeds_right" 479 480 122 2 0 0 3 235 true 181 236 (r 237) (r 238) (r 239) 489 122 490
def o241 := f1 "_law_seeds_right" "_law_seeds_right" d23 3 m418 240 0
def o242 := tu []
def o243 := fi []
def o244 := tu [(s "_law_script" 495), (s "_law_bag_here" 496), (s "_law_turn" 497), (s "_law_heard_here" 498)]
def o245 := tu [(s "_law_single" 499)]
def o246 := f0 "law" "law" d24 0 0
def o247 := ct "law" 492 "law" 493 494 139 1 0 0 3 242 true 181 243 (r 244) (r 245) (r 246) 500 139 501
def o248 := f1 "law" "law" d24 3 m418 247 0
def T1 (P : Params) : BT := nd (boot_o_0 P) (nd (boot_o_1 P) (nd (o3_1 P) (nd (boot_o_7 P) (nd o15 (n6 (o31 P) (o63 P) o127 o191 o95 o159 o223) (n6 o47 o79 o143 o207 o111 o175 o239)) (nd o23 (n6 o39 o71 o135 o199 o103 o167 o231) (n6 o55 o87 o151 o215 o119 o183 o247))) (nd o11 (nd o19 (n6 o35 o67 o131 o195 o99 o163 o227) (n6 o51 o83 o147 o211 o115 o179 o243)) (nd o27 (n6 o43 o75 o139 o203 o107 o171 o235) (nd o59 (n2 o91 o155 o219) (n1 o123 (o187 P)))))) (nd (boot_o_5 P) (nd (boot_o_9 P) (nd o17 (n6 o33 o65 o129 o193 o97 o161 o225) (n6 o49 o81 o145 o209 o113 o177 o241)) (nd o25 (n6 o41 o73 o137 o201 o105 o169 o233) (nd (o57 P) (n2 o89 o153 o217) (n1 o121 o185)))) (nd o13 (nd o21 (n6 (o37 P) o69 o133 o197 (o101 P) o165 o229) (n6 o53 o85 o149 o213 o117 o181 o245)) (nd o29 (n6 o45 o77 o141 o205 o109 o173 o237) (nd o61 (n2 o93 o157 o221) (n1 o125 o189)))))) (nd (boot_o_2 P) (nd (boot_o_4 P) (nd (boot_o_8 P) (nd o16 (n6 o32 o64 o128 o192 o96 o160 o224) (n6 o48 o80 o144 o208 o112 o176 o240)) (nd o24 (n6 o40 o72 o136 o200 o104 o168 o232) (n6 o56 (o88 P) o152 o216 o120 o184 o248))) (nd o12_1 (nd o20 (n6 o36 o68 o132 o196 o100 o164 o228) (n6 o52 o84 o148 o212 o116 o180 o244)) (nd o28 (n6 (o44 P) (o76 P) o140 o204 o108 o172 o236) (nd o60 (n2 o92 o156 o220) (n1 o124 o188))))) (nd (boot_o_6 P) (nd (boot_o_10 P) (nd o18 (n6 o34 o66 o130 o194 o98 o162 o226) (n6 o50 (o82 P) o146 o210 o114 o178 o242)) (nd o26 (n6 o42 o74 o138 o202 o106 o170 o234) (nd o58 (n2 o90 o154 o218) (n1 o122 o186)))) (nd o14 (nd o22 (n6 o38 o70 o134 o198 o102 o166 o230) (n6 o54 o86 o150 o214 o118 o182 o246)) (nd o30 (n6 o46 o78 o142 o206 o110 o174 o238) (nd o62 (n2 o94 o158 o222) (n1 o126 o190))))))
def S1 (w : World) (os : OsState) : SharedT := ⟨T1 w.params, 249, (boot_heap w.params).life, #[], boot_drawn, 503, os⟩
def Env0 : Env := { scope := PySem.Challenge.pw_lapseeds_k07_laps_refused.main.scope, locals := mainNs, globals := mainNs, cells := [], code := (r 13), frame := some 14 }
def C0 : Code := .body body Env0
end
end K07H
set_option Elab.async false
set_option linter.all false
set_option maxRecDepth 100000
set_option maxHeartbeats 4000000
namespace K07H
open PySem PySem.W PySem.Calls PyProof.Rows HandSHeadRun HX
theorem pre (w : World) (os : OsState) : preF (stepQ (denQ tabQ) PySem.Challenge.pw_lapseeds_k07_laps_refused w) 11 ANN 12 (HX.S0 w os) (topStub PySem.Challenge.pw_lapseeds_k07_laps_refused) = some (K07H.S0 w os, ⟨denQ tabQ C0, C0, ⟨0, 0, 0, 0⟩, B1⟩) := by kernel_rfl
theorem blk0 (w : World) (os : OsState) : segF (stepQ (denQ tabQ) PySem.Challenge.pw_lapseeds_k07_laps_refused w) 11 ANN 50 (K07H.S0 w os) (blk body Env0 C0 ⟨0, 0, 0, 0⟩) = some (.next, K07H.S0 w os, C0, ⟨0, 0, 0, 0⟩) := by kernel_rfl
theorem pc1 (w : World) (os : OsState) : Pc PySem.Challenge.pw_lapseeds_k07_laps_refused w 1857 (grp body 0 21) Env0 C0 (K07H.S0 w os) ⟨0, 0, 0, 0⟩ (S1 w os) ⟨139, 0, 147, 83⟩ := by
  unfold Pc
  kernel_rfl
theorem parts : body = grp body 0 21 ++ [] := by kernel_rfl
theorem run (w : World) (os : OsState) : topRun treeTable PySem.Challenge.pw_lapseeds_k07_laps_refused w (boot_heap w.params).objs.size (bootAnn w) (12 + (50 + (1857 + 3))) ⟨boot_heap w.params, #[], boot_drawn, boot_toks, os⟩ (topStub PySem.Challenge.pw_lapseeds_k07_laps_refused) = some (S1 w os).abs := by
  refine pc_first (pre w os) (blk0 w os) ?_
  have e : restOf body Env0 (.body body Env0) ⟨0, 0, 0, 0⟩ B1 = restOf (grp body 0 21 ++ []) Env0 C0 ⟨0, 0, 0, 0⟩ B1 := congrArg (fun b => restOf b Env0 C0 ⟨0, 0, 0, 0⟩ B1) parts
  rw [e]
  exact (pc_cons (pc1 w os) (pc_nil))
end K07H
set_option Elab.async false
set_option linter.all false
set_option maxRecDepth 100000
set_option maxHeartbeats 4000000
namespace ZH
open PySem PySem.W L2
def obsZ (chk : Frag → Bool) (fn : List He5.DefA) (K : Frag) : He.AlD := (chk K && fn.all fun d => d.ok K, fn.map fun d => He5.fnA K (d.at_ K))
def SaysZ (chk : Frag → Bool) (fn : List He5.DefA) (K : Frag) : Prop := obsZ chk fn K = He5.valA fn
section
variable {chk : Frag → Bool} {fn : List He5.DefA} {K : Frag}
theorem SaysZ.two (c : SaysZ chk fn K) : chk K = true ∧ (fn.all fun d => d.ok K) = true := He.ba (show (chk K && fn.all fun d => d.ok K) = true from congrArg (fun z : He.AlD => z.1) c)
theorem SaysZ.fact (c : SaysZ chk fn K) : chk K = true := c.two.1
theorem SaysZ.def_ (c : SaysZ chk fn K) (i : Nat) {d : He5.DefA} (h : fn[i]? = some d := by rfl) : ∃ fd, L2.FunD K d.name d.qual d.params d.body d.scope (d.dvs K) (d.kws K) (d.at_ K) fd := by
  have e := congrArg (fun z : He.AlD => z.2[i]?) c
  have e' : (fn.map fun d => He5.fnA K (d.at_ K))[i]? = (fn.map He5.DefA.val)[i]? := e
  rw [List.getElem?_map, List.getElem?_map, h] at e'
  exact He5.DefA.funD (Option.some.inj e') (List.all_eq_true.mp c.two.2 d (List.mem_of_getElem? h))
end
end ZH
namespace ZL
open PySem PySem.Spec PyProof.Rows L2
structure FnG (P : Program) (w : World) (K : PySem.W.Frag) (mg : Str → Option Value) (base : Heap) (CX : CXT) (k : Nat) (f : Addr) (fd : FuncData) (ps : List Str) (sp : Sp) : Prop where
  len : ∀ vs H Q E, sp vs H Q E → vs.length = ps.length
  run : ∀ (A : Around) (outer : List Env) (s : Shared) (H : Hp) (args : Args) (us : List Value) (vs : List V) (Q : VK) (E : XK), A.guards = some [] → Room k A → Env0 P w K mg base A outer s H → BindsTo s fd args (ps.zip us) → Vals vs us →
    sp vs H Q E → codeAny (model P w) A (.call (.ref f) args) (CR CX outer P w H s Q E) s
section
variable {P : Program} {w : World} {K : PySem.W.Frag} {mg : Str → Option Value} {base : Heap} {x qual : Str} {params : Arguments} {body : List Stmt} {scope : Scope} {dvs : List V} {kws : List (Str × V)} {f : Addr} {fd : FuncData} {CX : CXT} {N ps : List Str} {j k : Nat} {sp : Sp}
theorem FnG.of (F : FnOk P w K mg base CX k f fd ps sp) : FnG P w K mg base CX k f fd ps sp := ⟨F.len, fun A outer s H args us vs Q E _ hr e0 hb r h => F.run A outer s H args us vs Q E hr e0 hb r h⟩
theorem FnG.mono (F : FnG P w K mg base CX j f fd ps sp) (h : j ≤ k) : FnG P w K mg base CX k f fd ps sp := ⟨F.len, fun A outer s H args us vs Q E hg hr => F.run A outer s H args us vs Q E hg (hr.mono h)⟩
theorem okG (F : FunD K x qual params body scope dvs kws f fd) (S : FnScope N ps scope) (len : ∀ vs H Q E, sp vs H Q E → vs.length = ps.length)
    (hbody : ∀ (cdv : Value) (A : Around) (outer : List Env) (s : Shared) (H : Hp) (vs : List V) (Q : VK) (E : XK), A.guards = some [] → Room k (A.deeper (envOfC qual scope s.heap.objs.size f cdv)) → sp vs H Q E →
      ∃ t, PSs (cxOf CX P w K mg base N qual scope f cdv A outer s H E) body t ∧ t { nx := fun _ H' => Q .non H', rt := Q } (start N vs) H) : FnG P w K mg base CX (k + 1) f fd ps sp := by
  obtain ⟨oc, od, dV, kV, doc, pm, an, cdv, ct, osl, rfl, lk, hcd, -, -⟩ := F.ex
  refine ⟨len, fun A outer s H args us vs Q E hg hr e0 hb r h => ?_⟩
  refine StX.run_bnd lk hcd S hr e0 (G := fun xs H2 => xs = vs ∧ H2 = H) (fun A' Ex Q' q => hb _ _ _ _ (q s H vs us e0 Un.refl rfl (fun _ _ z => z) r (len _ _ _ _ h) ⟨rfl, rfl⟩)) fun s2 H2 xs e hr' => ?_
  rw [e.1, e.2]
  exact hbody cdv A outer s2 H vs Q E hg hr' h
end
section
variable {X : Cx} {CX : CXT} {k : Nat} {f C : Addr} {fd : FuncData} {ps : List Str} {sp : Sp} {dvs : List V} {ds : List Value} {E : XK} {x m : Str} {p pos apos : Pos} {e o : Expr} {es : List Expr} {ta : TE} {t : TA}
end
section
variable {X : Cx} {CX : CXT} {k : Nat} {f C g : Addr} {sp : Sp} {E : XK} {pins : List (Addr × Obj)} {σ : L2.St} {H : Hp} {s : Shared}
theorem run_at {A : Around} {Q : VK} {us : List Value} {vs : List V} (F : FnR X.prog X.w X.K X.mg X.base CX k f sp) (hr : Room k A) (hf : A.frames = X.A.frames) (hx : Passes CX X E) (I : Inv X pins σ H s) (r : Vals vs us) (h : sp vs H Q E) :
    wpAny (model X.prog X.w) A (call (.ref f) us) (EP X pins σ Q) X.xe s := by
  have e0 : Env0 X.prog X.w X.K X.mg X.base A X.stack s H := { I.env0 with frames := hf.trans I.env0.frames }
  refine wpAny_call (codeAny_mono (F A X.stack s H us vs Q E hr e0 r h) fun z s' hq => ?_)
  match z, hq with
  | .error e, hq => exact hx pins σ H s e s' I hq
  | .ok (.ret u), hq => exact I.after hq
  | .ok .next, hq => exact False.elim hq
  | .ok .brk, hq => exact False.elim hq
  | .ok .cont, hq => exact False.elim hq
theorem inst_at {a dx : Addr} {fs : List (Str × V)} (I : Inv X pins σ H s) (h : H a = some (.ins C dx fs)) : ∃ od, PySem.W.InstAt s.heap a (PySem.W.instObj C dx) C (some od) := by
  obtain ⟨mA, O, -⟩ := ins_get I.hok h
  obtain ⟨od, J, -⟩ := O.look
  exact ⟨od, J⟩
structure Own (K : PySem.W.Frag) (C : Addr) (m : Str) (f : Addr) : Prop where
  at_ : PySem.W.findIn K (.ref C) m = some (some (.ref f))
  fn : PySem.W.isFn K (.ref f) = true
theorem Own.of {K : PySem.W.Frag} {m : Str} (h : Meth K C m f) : Own K C m f := ⟨h.at_, h.fn⟩
end
section
open PySem.W (alike dataLt lt_data le_data)
variable {X : Cx}
def rReprD (K : PySem.W.Frag) : List V → Hp → VK → Prop := fun xs H Q => ∃ (a : Addr) (d : PyData), xs = [.ref a] ∧ Dp K H (.ref a) d ∧ d.showable = true ∧ d.hasDict = false ∧ d.depth ≤ 60 ∧ d.shown.length ≤ sizeLine ∧ Q (.str d.shown) H
theorem call_reprD (hg : X.A.guards = some []) (hu : X.A.units + 64 < cLine) : CallR X (.builtin "repr") (rReprD X.K) := by
  rintro pins s σ H xs us Q I r ⟨a, d, rfl, hd, hs, nd, dp, hz, q⟩
  match us, r with
  | [u], .cons r1 .nil =>
    cases r1
    obtain ⟨as, rd⟩ := Dp.reads I d (.ref a) (.ref a) hd rfl
    refine repr_of_reads' rd hs (fun z => ?_) hg (by omega) (fun _ _ z => z) (fun h' u tk hk => ⟨.str d.shown, H, I.kept hk, ⟨u, rfl⟩, q⟩) hz
    rw [nd] at z
    cases z
end
end ZL
set_option Elab.async false
set_option linter.all false
set_option maxRecDepth 100000
set_option maxHeartbeats 4000000
namespace ZL
open PySem PySem.Spec PyProof.Rows L2
structure OwnNe (K : PySem.W.Frag) (C : Addr) : Prop where
  ne : PySem.W.findIn K (.ref C) "__ne__" = some (some (.builtin "object.__ne__"))
  ob : PySem.W.mroIn K C (.type "object") = some true
section
variable {prog : Program} {w : World} {A : Around} {E : Value → Shared → Prop} {s : Shared} {K : PySem.W.Frag} {x C f : Addr} {ox : Obj} {od : Option Obj} {b : Value}
theorem ne_obj {Q : Value → Shared → Prop} (N : OwnNe K C) (o : Own K C "__eq__" f) (hu : A.in1.units < cLine) (X : K.In s.heap) (I : PySem.W.InstAt s.heap x ox C od)
    (h : wpAny (model prog w) A.in1 (call (.ref f) [.ref x, b]) (fun v s' => ∃ r, v = .bool r ∧ Q (.bool (!r)) s') E s) : wpAny (model prog w) A (call (.builtin "object.__ne__") [.ref x, b]) Q E s := by
  refine wpAny_call (codeAny_call_builtin PySem.F.cmp_object.ne.plain PySem.F.cmpEntry_ne (PySem.W.check_slot (i := "object.__ne__") (owner := "object") (n := "__ne__") PySem.F.cmpKind_ne PySem.F.cmpSplit_ne (I.type.andThen (PySem.W.looks_mroIn X N.ob)) (PySem.F.cmpArgs_ne _ _) ?_))
  unfold Builtin.«object.__ne__»
  refine wpAny_bind (m := slotArgs "__ne__" 1 _) (wpAny_pure ?_)
  refine wpAny_bind (m := cRoomFor _ _) (wpAny_cRoomFor hu ?_)
  refine wpAny_bind (m := callSpecialIfBound? (.ref x) (Str.ofString "__eq__") [b]) (PySem.W.ifBound_K X I o.at_ o.fn (thn h fun v s' z => ?_))
  obtain ⟨r, rfl, q⟩ := z
  exact wpAny_bind (m := truthy (.bool r)) (wpAny_truthy_bool (wpAny_pure q))
theorem ifBound_B {M : Model} {name : Str} {id : String} {args : List Value} {Q : Option Value → Shared → Prop} (X : K.In s.heap) (I : PySem.W.InstAt s.heap x ox C od) (hs : PySem.W.findIn K (.ref C) name = some (some (.builtin id)))
    (hb : ∀ self, bindSpecial (.builtin id) self = pure (.builtin id, [self])) (h : wpAny M A (call (.builtin id) (.ref x :: args)) (fun v => Q (some v)) E s) : wpAny M A (callSpecialIfBound? (.ref x) name args) Q E s := by
  have fin : wpAny M A (call (.builtin id) ([.ref x] ++ args) >>= fun v => pure (some v)) Q E s := wpAny_bind (thn h fun _ _ z => wpAny_pure z)
  simp only [callSpecialIfBound?, bindSpecialIfBound?]
  refine wpAny_holding (wpAny_bind (wpAny_bind (wpAny_bind (I.type.here ((PySem.W.looks_findIn X hs).here ?_)))))
  refine wpAny_bind (wpAny_askSetting (wpAny_ite ?_))
  split
  · exact wpAny_bind ((PySem.W.Looks.of_pure (hb _)).here (wpAny_pure (by exact fin)))
  · exact wpAny_tryCatch (wpAny_bind ((PySem.W.Looks.of_pure (hb _)).here (wpAny_pure (by exact fin))))
theorem ne_rc {tb : Value} {Q : Value → Shared → Prop} (N : OwnNe K C) (o : Own K C "__eq__" f) (hu : A.units + 1 < cLine) (X : K.In s.heap) (I : PySem.W.InstAt s.heap x ox C od) (hb : PySem.W.Looks (model prog w) s.heap (typeOf b) tb) (hn : PySem.W.notFirst K C tb = true)
    (h : wpAny (model prog w) A.in1 (call (.ref f) [.ref x, b]) (fun v s' => ∃ r, v = .bool r ∧ Q (.bool (!r)) s') E s) : wpAny (model prog w) A (richCompare .NotEq (.ref x) b) Q E s := by
  have one : wpAny (model prog w) A (tryCompare (.ref x) (cmpInfo .NotEq).2.1 b) (fun r s' => ∃ v, r = some v ∧ Q v s') E s := by
    unfold tryCompare
    refine wpAny_bind (ifBound_B X I N.ne PySem.F.cmp_object.ne.bind (ne_obj N o (by show A.units + 1 < cLine; exact hu) X I (thn h fun v s' z => ?_)))
    obtain ⟨r, rfl, q⟩ := z
    exact ⟨r, rfl, wpAny_pure ⟨_, rfl, q⟩⟩
  have fin : ∀ {k : Option Value → Sem Value}, (∀ v, k (some v) = pure v) → wpAny (model prog w) A (tryCompare (.ref x) (cmpInfo .NotEq).2.1 b >>= k) Q E s := fun {k} hk => wpAny_bind (thn one fun r s' z => by
    obtain ⟨v, rfl, q⟩ := z
    rw [hk]
    exact wpAny_pure q)
  unfold richCompare
  simp only [oneThing_ref]
  refine wpAny_holding (wpAny_bind (wpAny_cRoomFor (by omega) ?_))
  refine wpAny_bind (I.type.here (wpAny_bind (hb.here ?_)))
  split
  · rename_i q
    have e : PySem.W.subIn K tb (.ref C) = some false := by
      rcases Bool.or_eq_true_iff.mp hn with e | e
      · rw [beq_iff_eq.mp e] at q; simp at q
      · exact beq_iff_eq.mp e
    refine wpAny_bind ((PySem.W.looks_subIn X e).here ?_)
    simp only [Bool.false_eq_true, if_false]
    refine wpAny_bind (thn one fun r s' z => ?_)
    obtain ⟨v, rfl, hq⟩ := z
    exact wpAny_pure hq
  · refine wpAny_bind (wpAny_pure ?_)
    simp only [Bool.false_eq_true, if_false]
    refine wpAny_bind (thn one fun r s' z => ?_)
    obtain ⟨v, rfl, hq⟩ := z
    exact wpAny_pure hq
end
section
variable {X : Cx} {CX : CXT} {k : Nat} {f C g : Addr} {sp : Sp} {E : XK}
end
section
variable {X : Cx} {a b c d : Expr} {ta tb tc td : TE} {pos : Pos}
end
end ZL
set_option Elab.async false
set_option linter.all false
set_option maxRecDepth 100000
set_option maxHeartbeats 4000000
namespace ZL
open PySem PySem.Spec PyProof.Rows L2
section
variable {X : Cx} {CX : CXT} {k : Nat} {f C g : Addr} {sp : Sp} {E : XK} {a b : Expr} {ta tb : TE} {pos : Pos}
def rOwnIx (C : Addr) (sp : Sp) (E : XK) : R2 := fun x y H Q => ∃ a dx fs, x = .ref a ∧ H a = some (.ins C dx fs) ∧ sp [x, y] H Q E
theorem pe_ixO (o : Own X.K C "__getitem__" f) (hf : PySem.W.fnIn X.K f = true) (F : FnR X.prog X.w X.K X.mg X.base CX k f sp) (hr : Room (k + 1) X.A) (hx : Passes CX X E) (ha : PE X a ta) (hb : PE X b tb)
    (hs : ∀ x i, subscripted b true (.ref x) i = runValue (.builtin "lifetime.subscript" ⟨[.ref x, i], []⟩)) : PE X (.Subscript a b pos) (tOp (rOwnIx C sp E) ta tb) := by
  refine ⟨fun pins s σ H Q I h => ?_⟩
  refine Subscript_ (binT ha hb I h fun v u s2 x y H2 I2 rx ry q => ?_)
  obtain ⟨c, dx, fs, rfl, hc, q⟩ := q
  cases rx
  obtain ⟨od, J⟩ := inst_at I2 hc
  obtain ⟨m, hF⟩ := I2.fr
  exact PySem.W.sub_K hF I2.ok.mod.kin J o.at_ hf o.fn (run_at (A := X.A.in1) (vs := [.ref c, y]) F hr.in1 rfl hx I2 (.cons rfl (.cons ry .nil)) q) (hs _ _)
end
section
variable {prog : Program} {w : World} {A : Around} {E : Value → Shared → Prop} {s : Shared}
end
section
variable {X : Cx}
end
theorem meets_enumerate_new1 {v : Value} {o : Obj} {H : Heap → Prop} (B : Begins v o H) :
    Meets (Builtin.«enumerate.__new__» ⟨[.type "enumerate", v], []⟩) (fun _ R s => H s.heap ∧
      R (.ok (.ret (.ref (s.heap.push o).objs.size))) { s with heap := (s.heap.push o).push { cls := .type "enumerate", data := .fields #[.none, .bool false, .ref s.heap.objs.size, rawInt 0, .none, .none] } }) :=
  .of_wp fun prog w A R s h => by
    obtain ⟨hp, g, d, tk, os⟩ := s
    obtain ⟨h1, h⟩ := h
    have hsub := sub_enumerate
    have q1 : ∀ {A' : Around} {E : Value → Shared → Prop} {Q : Value → Shared → Prop}, Q (.ref hp.objs.size) ⟨hp.push o, g, d, tk, os⟩ → wpAny (model prog w) A' (pyIter v) Q E ⟨hp, g, d, tk, os⟩ :=
      fun q => B.iter prog w _ _ ⟨hp, g, d, tk, os⟩ _ h1 q
    wp_walk using q1
    refine wpAny_stack_any fun st => wpAny_pure ?_
    split
    · rename_i c _ _ _ _ _
      cases (c == Value.type "enumerate")
      · wp_walk using q1
        exact ⟨_, rfl, h⟩
      · wp_walk using q1
        exact ⟨_, rfl, h⟩
    · wp_walk using q1
      exact ⟨_, rfl, h⟩
theorem enum_begins1 {prog : Program} {w : World} {A : Around} {E : Value → Shared → Prop} {s : Shared} {v : Value} {o : Obj} {H : Heap → Prop} {Q : Value → Shared → Prop} (B : Begins v o H) (h1 : H s.heap)
    (h : ∀ h', IsEnum h' (s.heap.objs.size + 1) s.heap.objs.size 0 .none → h'.get? s.heap.objs.size = some o → (∀ b o, s.heap.get? b = some o → h'.get? b = some o) → Q (.ref (s.heap.objs.size + 1)) { s with heap := h' }) :
    wpAny (model prog w) A (call (.type "enumerate") [v]) Q E s := by
  have hz : (s.heap.push o).objs.size = s.heap.objs.size + 1 := Heap.size_push ..
  refine callType_new PySem.F.called_enumerate (by decide) (PySem.F.typeCall_enumerate_1 _) (PySem.F.newCall_enumerate_1 _) (fun obj => PySem.F.args_object_init_2 obj _) PySem.F.entry_enumerate_new (meets_enumerate_new1 B) ⟨h1, ?_⟩
  show _ ∧ _
  rw [hz]
  have he := Heap.get?_push_size (s.heap.push o) (o := { cls := .type "enumerate", data := .fields #[.none, .bool false, .ref s.heap.objs.size, rawInt 0, .none, .none] }) rfl
  rw [hz] at he
  exact ⟨⟨_, he, rfl⟩, h _ he (Heap.get?_push_of_some _ (Heap.get?_push_size _ B.free)) fun b o x => Heap.get?_push_of_some _ (Heap.get?_push_of_some _ x)⟩
def IteT (K : PySem.W.Frag) (a : Addr) : It :=
  ⟨fun i H => ∃ (xs : List V) (x : V), SqT K H a xs ∧ xs[i]? = some x, fun i H v H' => ∃ T x, v = .ref T ∧ H T = none ∧ H' = upd H T (.tup [.int (i : Nat), x]) ∧ ∀ xs, SqT K H a xs → xs[i]? = some x, fun i H => ∃ xs : List V, SqT K H a xs ∧ xs.length = i⟩
theorem turn_enumT {P : Program} {w : World} {K : PySem.W.Frag} {elts : List Expr} {kk : Nat} {tpos : Pos} (a e it : Addr) :
    Turn P w K (.Tuple elts kk tpos) (IteT K a) [e, it] e (fun i h => (∃ old, IsEnum h e it ((i : Nat) : Int) old) ∧ h.IsTupleIter it a i ∧ e ≠ it) where
  mem := by simp
  obj := fun i h st b hb => by
    obtain ⟨⟨old, he⟩, ⟨o, ho, hc, hd⟩, _⟩ := st
    rcases List.mem_cons.mp hb with z | z
    · rw [z]; exact ⟨_, he, fun v q => nomatch q⟩
    · rw [List.mem_singleton.mp z]; exact ⟨o, ho, fun v q => by rw [hd] at q; cases q⟩
  keep := fun i h h' st k => by
    obtain ⟨⟨old, he⟩, hi, hne⟩ := st
    exact ⟨⟨old, k e (by simp) _ he⟩, hi.at fun o q => k it (by simp) o q, hne⟩
  item := by
    intro X hP hw hK hc i pins s σ H E I hf st hg
    subst hP hw hK
    obtain ⟨⟨old, he⟩, hit, hne⟩ := st
    obtain ⟨xs, x, hq, hx⟩ := hg
    obtain ⟨its, rv, p, hz⟩ := I.tuple hq
    obtain ⟨u, hu, ru⟩ := rv.get hx
    have hel : e < s.heap.objs.size := Heap.lt_size he
    have hil : it < s.heap.objs.size := by obtain ⟨_, q, _⟩ := hit; exact Heap.lt_size q
    have hae : a ≠ e := fun z => by
      obtain ⟨o, ho, hcl, _⟩ := p
      rw [z, he] at ho
      cases ho
      injection hcl with q
      exact absurd q (by decide)
    have hai : a ≠ it := fun z => by
      obtain ⟨o, ho, hcl, _⟩ := p
      obtain ⟨o2, ho2, hc2, _⟩ := hit
      rw [z, ho2] at ho
      cases ho
      rw [hc2] at hcl
      injection hcl with q
      exact absurd q (by decide)
    refine wpAny_pyNext_enum_itemC (Draws.tuple (by exact I.ok.hd hc) it a hai its.toArray) he ⟨hit, p⟩ (by rw [List.size_toArray, ← rv.length]; exact (List.getElem?_eq_some_iff.mp hx).1) hne (by simp [hne, hae.symm]) fun y h' tk hP ho hst hT hsz hk => ?_
    have hy : y = u := by
      have q : its.toArray[i]? = some y := hP
      rw [List.getElem?_toArray, hu] at q
      exact (Option.some.inj q).symm
    subst hy
    refine ⟨_, rfl, wpAny_letOwnedTupleGo_enum (s := { s with heap := h', toks := tk + 1 }) ho fun h'' he' sb => ?_⟩
    have hT2 : h''.get? s.heap.objs.size = some { cls := .type "tuple", data := .seq #[.int i tk, y] } := (sb.2 _ (Nat.ne_of_gt hel)).trans hT
    have new : ObjOk X.prog X.w (upd H s.heap.objs.size (.tup [.int (i : Nat), x])) h'' s.heap.objs.size (.tup [.int (i : Nat), x]) :=
      ⟨by show 2 ≤ sizeLine; decide, [.int i tk, y], .cons ⟨_, rfl⟩ (.cons ru .nil), ⟨_, hT2, rfl, _, rfl⟩⟩
    have I1 : Inv X pins σ (upd H s.heap.objs.size (.tup [.int (i : Nat), x])) { s with heap := h'', toks := tk + 1 } :=
      I.turnedNew (ch := [e, it]) (fun b ob hb q => (sb.2 b (fun z => hb (by simp [z]))).trans (hk b ob (fun z => hb (by simp [z])) (fun z => hb (by simp [z])) q)) hf (Nat.le_refl _) new
    refine ⟨.ref s.heap.objs.size, _, I1, rfl, ⟨_, x, rfl, I.hok.fresh (Nat.le_refl _), rfl, fun ys hy => by rw [I.tuple_inj hy hq]; exact hx⟩, ⟨⟨y, ?_⟩, hst.1.at fun o q => (sb.2 it (Ne.symm hne)).trans q, hne⟩, fun b hb => ?_⟩
    · rw [show ((i + 1 : Nat) : Int) = (i : Int) + 1 by omega]
      exact he'
    · have hb' : b < s.heap.objs.size := by
        rcases List.mem_cons.mp hb with z | z
        · rw [z]; exact hel
        · rw [List.mem_singleton.mp z]; exact hil
      rw [upd_ne (Nat.ne_of_lt hb')]
      exact (hf b hb).1
  done := by
    intro X hP hw hK hc i pins s σ H E I hf st hg
    subst hP hw hK
    obtain ⟨⟨old, he⟩, hit, hne⟩ := st
    obtain ⟨xs, hq, hx⟩ := hg
    obtain ⟨its, rv, p, hz⟩ := I.tuple hq
    obtain ⟨f0, f1, f2, f3, f4, f5⟩ := hf it (by simp)
    have hl := rv.length
    have hai : a ≠ it := fun z => by
      obtain ⟨o, ho, hcl, _⟩ := p
      obtain ⟨o2, ho2, hc2, _⟩ := hit
      rw [z, ho2] at ho
      cases ho
      rw [hc2] at hcl
      injection hcl with q
      exact absurd q (by decide)
    have hi : its.toArray.size = i := by rw [List.size_toArray, ← hl]; exact hx
    exact wpAny_pyNext_enum_endD (Draws.tuple (by exact I.ok.hd hc) it a hai its.toArray) he ⟨by rw [hi]; exact hit, p⟩ fun h' eb => ⟨rfl, I.turned (t' := s.toks) (fun b o hb q => eb b o hb q) f0 f1 f3 f4 f5⟩
  self := fun A i s Q E st h => by
    obtain ⟨⟨_, he⟩, _⟩ := st
    exact wpAny_pyIter_enum he h
def iEnumT (K : PySem.W.Frag) (ta : TA) : TI := fun σ H R => ta σ H fun vs H1 => ∃ a xs, vs = [.ref a] ∧ SqT K H1 a xs ∧ R (IteT K a) H1
theorem pi_enumT {X : Cx} {e : Expr} {ta : TA} {p pos tpos : Pos} {elts : List Expr} {kk : Nat} (hg : Gl X "enumerate") (hm : X.mg "enumerate" = none) (ha : PA X [e] ta) (hs : starEach [e] X.env = [(false, eval e X.env)] := by rfl) :
    PI X (.Tuple elts kk tpos) (.Call (.Name "enumerate" p) [e] [] pos) (iEnumT X.K ta) := by
  refine ⟨fun pins s σ H R I h => ?_⟩
  refine Call_ (ld_blt I hg hm boot_enumerate (PyProof.Rows.callWith_type1 (thn (ha.run pos pins s σ H _ I h) fun us s1 z => ?_) hs rfl))
  obtain ⟨vs, H1, I1, r1, a, xs, rfl, hq, q⟩ := z
  match us, r1 with
  | [u], .cons r .nil =>
    cases r
    obtain ⟨its, rv, p', hz⟩ := I1.tuple hq
    refine enum_begins1 (begins_tuple a its.toArray) p' fun h' he hit hk => wpAny_pyIter_enum he ?_
    have I2 : Inv X pins σ H1 { s1 with heap := h' } := I1.kept (t' := s1.toks) hk
    refine ⟨s1.heap.objs.size + 1, [s1.heap.objs.size + 1, s1.heap.objs.size], _, _, H1, rfl, I2, turn_enumT a (s1.heap.objs.size + 1) s1.heap.objs.size, ⟨⟨.none, he⟩, ⟨_, hit, rfl, rfl⟩, Nat.succ_ne_self _⟩, fun b hb => ?_, q⟩
    have hle : s1.heap.objs.size ≤ b := by
      rcases List.mem_cons.mp hb with z | z
      · rw [z]; exact Nat.le_add_right _ _
      · rw [List.mem_singleton.mp z]; exact Nat.le_refl _
    exact I1.fpOk hle (I1.hok.fresh hle)
theorem walk_enumT {K : PySem.W.Frag} {a : Addr} {xs : List V} : Walk (IteT K a) xs.length (fun H => SqT K H a xs) (YPair (fun i => some (.int (i : Nat))) (fun i => xs[i]?)) where
  goes := fun i _ hi q => ⟨xs, xs[i], q, by simp [hi]⟩
  stops := fun _ q => ⟨xs, q, rfl⟩
  yields := fun i H v H' _ q y => by
    obtain ⟨T, x, h1, h2, h3, h4⟩ := y
    exact ⟨T, .int (i : Nat), x, h1, h2, h3, rfl, h4 xs q⟩
end ZL
set_option Elab.async false
set_option linter.all false
set_option maxRecDepth 100000
set_option maxHeartbeats 4000000
namespace ZL
open PySem PySem.Spec PyProof.Rows L2
def FnRG (P : Program) (w : World) (K : PySem.W.Frag) (mg : Str → Option Value) (base : Heap) (CX : CXT) (k : Nat) (f : Addr) (sp : Sp) : Prop :=
  ∀ (A : Around) (outer : List Env) (s : Shared) (H : Hp) (us : List Value) (vs : List V) (Q : VK) (E : XK), A.guards = some [] → Room k A → Env0 P w K mg base A outer s H → Vals vs us → sp vs H Q E →
    codeAny (model P w) A (.call (.ref f) ⟨us, []⟩) (CR CX outer P w H s Q E) s
section
variable {P : Program} {w : World} {K : PySem.W.Frag} {mg : Str → Option Value} {base : Heap} {x qual : Str} {st : Stmt} {kws : List (Str × V)} {f : Addr} {fd : FuncData} {N ps : List Str} {k : Nat} {sp : Sp} {CX : CXT}
theorem FnRG.of (F : FnR P w K mg base CX k f sp) : FnRG P w K mg base CX k f sp := fun A outer s H us vs Q E _ hr e0 r h => F A outer s H us vs Q E hr e0 r h
end
section
variable {X : Cx} {CX : CXT} {k : Nat} {f C : Addr} {sp : Sp} {E : XK} {x m : Str} {p pos apos : Pos} {e o : Expr} {es : List Expr} {ta : TE} {t : TA}
def tCallR (sp : Sp) (E : XK) (t : TA) : TE := fun σ H Q => t σ H fun vs H1 => sp vs H1 Q E
theorem pe_callR (F : FnR X.prog X.w X.K X.mg X.base CX k f sp) (hr : Room k X.A) (hg : Gl X x) (hm : X.mg x = some (.ref f)) (hk : PySem.W.keepIn X.K (.ref f) = true) (hx : Passes CX X E)
    (ha : PA X (e :: es) t) (hdb : (x == ("__debug__" : Str)) = false := by decide) (he : starEach (e :: es) X.env = (false, eval e X.env) :: starEach es X.env := by rfl) (hpl : (backTo pos (starEach es X.env)).any (·.1) = false := by rfl) :
    PE X (.Call (.Name x p) (e :: es) [] pos) (tCallR sp E t) :=
  ⟨fun pins s σ H Q I h => wpAny_Call_Name_kw (ld_glob I hg hm (PySem.W.callWith_K (h₀ := X.base) I.ok.mod.kin hk (thn (ha.run pos pins s σ H _ I h) fun us s1 z => by
    obtain ⟨vs, H1, I1, r, q⟩ := z
    exact ⟨I1.kIn, wpAny_call (run_fnR F hr hx I1 r q)⟩) he hpl) hdb)⟩
theorem pe_callRG (F : FnRG X.prog X.w X.K X.mg X.base CX k f sp) (hgd : X.A.guards = some []) (hr : Room k X.A) (hg : Gl X x) (hm : X.mg x = some (.ref f)) (hk : PySem.W.keepIn X.K (.ref f) = true) (hx : Passes CX X E)
    (ha : PA X (e :: es) t) (hdb : (x == ("__debug__" : Str)) = false := by decide) (he : starEach (e :: es) X.env = (false, eval e X.env) :: starEach es X.env := by rfl) (hpl : (backTo pos (starEach es X.env)).any (·.1) = false := by rfl) :
    PE X (.Call (.Name x p) (e :: es) [] pos) (tCallR sp E t) :=
  ⟨fun pins s σ H Q I h => wpAny_Call_Name_kw (ld_glob I hg hm (PySem.W.callWith_K (h₀ := X.base) I.ok.mod.kin hk (thn (ha.run pos pins s σ H _ I h) fun us s1 z => by
    obtain ⟨vs, H1, I1, r, q⟩ := z
    refine ⟨I1.kIn, wpAny_call (codeAny_mono (F X.A X.stack s1 H1 us vs Q E hgd hr I1.env0 r q) fun z s' hq => ?_)⟩
    match z, hq with
    | .error e, hq => exact hx pins σ H1 s1 e s' I1 hq
    | .ok (.ret u), hq => exact I1.after hq
    | .ok .next, hq => exact False.elim hq
    | .ok .brk, hq => exact False.elim hq
    | .ok .cont, hq => exact False.elim hq) he hpl) hdb)⟩
end
def LcN (D : Addr) (Pv : Nat → List V → Hp → Prop) (i : Nat) (y : V) (H4 : Hp) : Prop := ∃ acc, H4 D = some (.lst acc) ∧ acc.length < sizeLine ∧ ∃ ys, ys.length = i + 1 ∧ upd H4 D (.lst (acc ++ [y])) D = some (.lst ys) ∧ Pv (i + 1) ys (upd H4 D (.lst (acc ++ [y])))
theorem LcN.mk {D : Addr} {Pv : Nat → List V → Hp → Prop} {i : Nat} {ys : List V} {y : V} {H4 : Hp} (hl : ys.length = i) (hi : i < 1000) (hD : H4 D = some (.lst ys)) (h : Pv (i + 1) (ys ++ [y]) (upd H4 D (.lst (ys ++ [y])))) : LcN D Pv i y H4 :=
  ⟨ys, hD, small1000 (by omega), ys ++ [y], by rw [List.length_append, hl]; rfl, upd_same, h⟩
end ZL
set_option Elab.async false
set_option linter.all false
set_option maxRecDepth 100000
set_option maxHeartbeats 4000000
namespace ZL
open PySem PySem.Spec PyProof.Rows L2
section
variable {P : Program} {w : World} {K : PySem.W.Frag} {mg mb : Str → Option Value} {k : Nat} {fa a : Addr} {sp : Sp} {s₁ : Shared} {vs : List Value} {ns : List Int}
abbrev ended (s₁ : Shared) : Except Value Flow → Shared → Prop := fun r s' => r = .ok (.ret (.bool true)) ∧ OldK s₁.heap s'.heap ∧ s'.os = s₁.os ∧ AllBare s'.gens
end
end ZL
set_option Elab.async false
set_option linter.all false
set_option maxRecDepth 100000
set_option maxHeartbeats 4000000
namespace ZL
open PySem PySem.Spec PyProof.Rows L2
section
variable {X : Cx} {CX : CXT} {k : Nat} {f C : Addr} {sp : Sp} {E : XK}
theorem pe_makeR0 {x : Str} {p pos : Pos} (M : Mk X.K C f) (F : FnR X.prog X.w X.K X.mg X.base CX k f sp) (hr : Room (k + 1) X.A) (hg : Gl X x) (hm : X.mg x = some (.ref C)) (hx : Passes CX X E) (hd : (x == ("__debug__" : Str)) = false := by decide) :
    PE X (.Call (.Name x p) [] [] pos) (fun σ H Q => ∀ x dx, H x = none → H dx = none → dx ≠ x → sp [V.ref x] (upd (upd H dx (.own x)) x (.ins C dx [])) (fun v H2 => v = .non ∧ Q (.ref x) H2) E) :=
  ⟨fun pins s σ H Q I h => wpAny_Call_Name_kw (ld_glob I hg hm (PySem.W.callWith_K0 I.kIn M.kp (StX.run_makeR M F hr hx (I.tok _) .nil h)) hd)⟩
end
end ZL
set_option Elab.async false
set_option linter.all false
set_option maxRecDepth 100000
set_option maxHeartbeats 4000000
namespace ZL
open PySem PySem.Spec PyProof.Rows L2
section
variable {X : Cx} {CX : CXT} {k : Nat} {f C g : Addr} {sp : Sp} {E : XK} {pins : List (Addr × Obj)} {σ : L2.St} {H : Hp} {s : Shared}
theorem cmpBack_ref {Q : VK} {u : Value} {s' : Shared} (h : EP X pins σ (fun v H' => (∃ r, v = .ref r) ∧ Q v H') u s') : PySem.W.CmpBack (EP X pins σ Q) u s' := by
  obtain ⟨v, H', I', r, ⟨b, rfl⟩, q⟩ := h
  cases r
  exact ⟨.ref b, H', I', rfl, q⟩
end
end ZL
set_option Elab.async false
set_option linter.all false
set_option maxRecDepth 100000
set_option maxHeartbeats 4000000
namespace ZL
open PySem PySem.Spec PyProof.Rows L2
theorem int_mod_inst (a : Int) (t : Tok) (l C dx : Addr) :
    Meets (Builtin.«int.__mod__» ⟨[.int a t, .ref l], []⟩) (fun _ R s => s.heap.get? l = some (PySem.W.instObj C dx) ∧ R (.ok (.ret Value.notImplemented)) s) :=
  .of_wp fun prog w A R s h => by obtain ⟨hp, g, d, tk, os⟩ := s; obtain ⟨hl, h⟩ := h; wp_walk; exact ⟨_, rfl, h⟩
section
open PySem.W
variable {prog : Program} {w : World} {A : Around} {E : Value → Shared → Prop} {s : Shared} {K : Frag} {x C f dx : Addr} {od : Option Obj} {nm id : String} {B : Builtin} {i : Int} {t : Tok} {Q : Value → Shared → Prop}
theorem try_ni (slot : Slot "int" (PySem.dunder nm) id) (entry : entryFor table id = some B) (args : argsOk id ⟨[.int i t, .ref x], []⟩) (ni : Meets (B ⟨[.int i t, .ref x], []⟩) (fun _ R s => s.heap.get? x = some (instObj C dx) ∧ R (.ok (.ret .notImplemented)) s))
    (hx : s.heap.get? x = some (instObj C dx)) {Q : Option Value → Shared → Prop} (h : Q none s) : wpAny (model prog w) A (tryMethod (.int i t) (PySem.dunder nm) (.ref x)) Q E s := by
  unfold tryMethod
  refine wpAny_bind (wpAny_callSpecial?_slot (typeIs_int s i t) slot (call_meets slot (typeIs_int s i t) entry args ni ⟨hx, ?_⟩))
  exact wpAny_pure h
theorem rbin1 (slot : Slot "int" (PySem.dunder nm) id) (entry : entryFor table id = some B) (args : argsOk id ⟨[.int i t, .ref x], []⟩) (ni : Meets (B ⟨[.int i t, .ref x], []⟩) (fun _ R s => s.heap.get? x = some (instObj C dx) ∧ R (.ok (.ret .notImplemented)) s))
    (fills : fillsNumberSlot (.type "int") nm = pure true) (X : K.In s.heap) (I : InstAt s.heap x (instObj C dx) C od) (hx : s.heap.get? x = some (instObj C dx)) (L4 : Looks (model prog w) s.heap (fillsNumberSlot (.ref C) nm) true)
    (hs : findIn K (.ref C) (dunderR nm) = some (some (.ref f))) (hf : isFn K (.ref f) = true) (hsub : subIn K (.ref C) (.type "int") = some false)
    (h : wpAny (model prog w) A (call (.ref f) [.ref x, .int i t]) (PySem.W.CmpBack Q) E s) : wpAny (model prog w) A (binaryOp1 nm (.int i t) (.ref x)) (fun r s' => ∃ v, r = some v ∧ Q v s') E s := by
  have one := ksp_try X I hs hf h
  have L1 : Looks (model prog w) s.heap (typeOf (.int i t)) (.type "int") := Looks.of_pure rfl
  have L2 : Looks (model prog w) s.heap (typeOf (.ref x)) (.ref C) := I.type
  have L3 : Looks (model prog w) s.heap (fillsNumberSlot (.type "int") nm) true := Looks.of_pure fills
  have L5 : Looks (model prog w) s.heap (isSubtype (.ref C) (.type "int")) false := looks_subIn X hsub
  have L6 : Looks (model prog w) s.heap (numberSlotInPython (.type "int") nm) false := Looks.of_pure rfl
  have hne : (Value.type "int" == Value.ref C) = false := Bool.eq_false_iff.mpr fun q => by cases beq_iff_eq.mp q
  have ni' : ∀ {Q : Option Value → Shared → Prop}, Q none s → wpAny (model prog w) A (tryMethod (.int i t) (PySem.dunder nm) (.ref x)) Q E s := fun hq => try_ni slot entry args ni hx hq
  obtain ⟨hh, g, d, tt, os⟩ := s
  unfold binaryOp1
  refine wpAny_bind (L1.at (wpAny_bind (L2.at (wpAny_bind (L3.at ?_)))))
  simp only [hne, Bool.false_eq_true, if_false]
  ksp_lk
  refine ni' ?_
  ksp_lk
  refine wpAny_mono one (fun r s' hr' => ?_) fun _ _ e => e
  obtain ⟨v, rfl, hq⟩ := hr'
  ksp_lk
  exact ⟨v, rfl, hq⟩
theorem after1 {op : Operator} {a b : Value} (h : wpAny (model prog w) A (binaryOp1 op.info.2 a b) (fun r s' => ∃ v, r = some v ∧ Q v s') E s) : wpAny (model prog w) A (binaryOp op a b) Q E s := by
  rcases hi : op.info with ⟨sym, nm'⟩
  rw [hi] at h
  simp only [binaryOp, hi]
  refine wpAny_holding (wpAny_bind (wpAny_mono h (fun r s' z => ?_) fun _ _ e => e))
  obtain ⟨v, rfl, hq⟩ := z
  exact wpAny_pure hq
end
end ZL
set_option Elab.async false
set_option linter.all false
set_option maxRecDepth 100000
set_option maxHeartbeats 4000000
namespace ZL
open PySem PySem.Spec PyProof.Rows L2
section
open PySem.W
variable {prog : Program} {w : World} {A : Around} {E : Value → Shared → Prop} {s : Shared} {K : Frag} {x C f dx : Addr} {od : Option Obj} {nm id : String} {i : Int} {t : Tok} {Q : Value → Shared → Prop}
end
section
open PySem.W (clsIn findIn subIn)
variable {X : Cx} {CX : CXT} {k : Nat} {f C : Addr} {sp : Sp} {E : XK} {pins : List (Addr × Obj)} {σ : L2.St} {H : Hp} {s : Shared}
def okV (v : V) : Prop := (∃ r, v = .ref r) ∨ ∃ n, v = .int n
theorem cmpBack_ok {Q : VK} {u : Value} {s' : Shared} (h : EP X pins σ (fun v H' => okV v ∧ Q v H') u s') : PySem.W.CmpBack (EP X pins σ Q) u s' := by
  obtain ⟨v, H', I', r, ⟨b, rfl⟩ | ⟨b, rfl⟩, q⟩ := h
  · cases r
    exact ⟨.ref b, H', I', rfl, q⟩
  · obtain ⟨t, rfl⟩ := r
    exact ⟨.int b, H', I', ⟨t, rfl⟩, q⟩
def Plain (K : PySem.W.Frag) (C : Addr) : Prop := ∃ cd, clsIn K C = some cd ∧ cd.mro = [.ref C, .type "object"]
def rRBinI (C : Addr) (sp : Sp) (E : XK) : R2 := fun x y H Q => ∃ i b dy gs, x = .int i ∧ y = .ref b ∧ H b = some (.ins C dy gs) ∧ sp [y, x] H (fun v H' => okV v ∧ Q v H') E
theorem op_rbinI {op : Operator} {id : String} {B : Builtin} (slot : Slot "int" (PySem.dunder op.info.2) id) (entry : entryFor table id = some B) (args : ∀ a b, argsOk id ⟨[a, b], []⟩)
    (ni : ∀ a t l C dx, Meets (B ⟨[.int a t, .ref l], []⟩) (fun _ R s => s.heap.get? l = some (PySem.W.instObj C dx) ∧ R (.ok (.ret .notImplemented)) s)) (fills : fillsNumberSlot (.type "int") op.info.2 = pure true)
    (fC : ∀ h, X.K.In h → PySem.W.Looks (model X.prog X.w) h (fillsNumberSlot (.ref C) op.info.2) true) (o : Own X.K C (dunderR op.info.2) f) (hsub : subIn X.K (.ref C) (.type "int") = some false)
    (F : FnR X.prog X.w X.K X.mg X.base CX k f sp) (hr : Room k X.A) (hx : Passes CX X E) : OpR X (binaryOp op) (rRBinI C sp E) := by
  rintro pins s σ H x y v u Q I rx ry ⟨i, b, dy, gs, rfl, rfl, hb, q⟩
  cases ry
  have rx' := rx
  obtain ⟨t, rfl⟩ := rx'
  obtain ⟨od, J⟩ := inst_at I hb
  exact after1 (rbin1 slot entry (args _ _) (ni i t b C dy) fills I.kIn J J.at_ (fC _ I.kIn) o.at_ o.fn hsub (thn (run_at (vs := [.ref b, .int i]) F hr rfl hx I (.cons rfl (.cons rx .nil)) q) fun u s' z => cmpBack_ok z))
end
end ZL
set_option Elab.async false
set_option linter.all false
set_option maxRecDepth 100000
set_option maxHeartbeats 4000000
namespace ZL
open PySem PySem.Spec PyProof.Rows L2
section
variable {M : Model} {A : Around} {E : Value → Shared → Prop} {s : Shared}
end
section
variable {X : Cx} {CX : CXT} {k : Nat} {f C : Addr} {sp : Sp} {E : XK}
end
end ZL
set_option Elab.async false
set_option linter.all false
set_option maxRecDepth 100000
set_option maxHeartbeats 4000000
namespace ZL
open PySem PySem.Spec PyProof.Rows L2
end ZL
set_option Elab.async false
set_option linter.all false
set_option maxRecDepth 100000
set_option maxHeartbeats 4000000
namespace ZH
open PySem PySem.W L2
abbrev Dks : Type := List (Str × List Str)
def obsY (chk : Frag → Bool) (fn : List He5.DefA) (ds : Dks) (K : Frag) : He.AlT := (obsZ chk fn K, ds.map fun d => He.dicW K (He.ga K d.1))
def SaysY (chk : Frag → Bool) (fn : List He5.DefA) (ds : Dks) (w : World) (K : Frag) : Prop := obsY chk fn ds K = (He5.valA fn, ds.map fun d => some (He.keysIn w.params d.2))
section
variable {chk : Frag → Bool} {fn : List He5.DefA} {ds : Dks} {w : World} {K : Frag}
theorem SaysY.z (c : SaysY chk fn ds w K) : SaysZ chk fn K := congrArg (fun z : He.AlT => z.1) c
theorem SaysY.dict (c : SaysY chk fn ds w K) {x : Str} {ks : List Str} (h : (x, ks) ∈ ds) : ∃ es n, L2.KDict K w (He.ga K x) es n := by
  obtain ⟨i, hi, e⟩ := List.mem_iff_getElem.mp h
  have e1 : ds.map (fun d => He.dicW K (He.ga K d.1)) = ds.map fun d => some (He.keysIn w.params d.2) := congrArg (fun z : He.AlT => z.2) c
  have e2 := congrArg (fun l : List (Option (List (Option (Str × Int)))) => l[i]?) e1
  simp only [List.getElem?_map, List.getElem?_eq_getElem hi, Option.map_some, e] at e2
  exact He.dicW_ok (Option.some.inj e2)
end
end ZH
set_option Elab.async false
set_option linter.all false
set_option maxRecDepth 100000
set_option maxHeartbeats 4000000
namespace ZH
open PySem PySem.W L2
end ZH
set_option Elab.async false
set_option linter.all false
set_option maxRecDepth 100000
set_option maxHeartbeats 4000000
namespace PV
open PySem PySem.Spec PyProof.Rows L2 ZL
inductive D where
  | non | bl (b : Bool) | int (i : Int) | str (x : Str)
  | tup (xs : List D) | lst (xs : List D) | obj (c : String) (fs : List (String × D))
  | loc (n : Nat) | cls (c : String) | fnc (f : String) | ty (n : String)
  | src (xs : List D) | dic0 | hob (o : HO) | exc (c : String) (fs : List (String × D)) | ntp (xs : List D)
inductive Cell where
  | lst (xs : List D) | ins (c : String) (fs : List (String × D)) | dead | dic (es : List (Str × D))
def ExV (cls : Value) (dd : Option Addr) (a : Addr) : HO := .ext fun h => ∃ (oe : Obj) (vs : Array Value), h.get? a = some oe ∧ Zc cls dd oe ∧ oe.data = .fields vs
def tbs (K : PySem.W.Frag) : List (Addr × Str) := K.filterMap fun e => match e.2.data with
  | .func fd => (match fd.code with
    | .ref c => (match K.lookup c with
      | some ⟨_, _, .fields vs, _⟩ => (match (vs[11]? : Option Value) with
        | some (.ref P) => (match K.lookup P with
          | none => some (P, fd.qualname ++ ".<locals>." ++ "<lambda>")
          | some _ => none)
        | _ => none)
      | _ => none)
    | _ => none)
  | _ => none
abbrev NoT (o : HO) : Prop := ∀ ps, o ≠ .tbl ps
abbrev Sto := List Cell
structure Gh where
  F : Hp
  f : Nat → Option Addr
def Gh.le (G G' : Gh) : Prop := (∀ a o, G.F a = some o → G'.F a = some o) ∧ ∀ n a, G.f n = some a → G'.f n = some a
theorem Gh.le.refl {G : Gh} : G.le G := ⟨fun _ _ h => h, fun _ _ h => h⟩
theorem Gh.le.trans {G G' G'' : Gh} (a : G.le G') (b : G'.le G'') : G.le G'' := ⟨fun x o h => b.1 x o (a.1 x o h), fun n x h => b.2 n x (a.2 n x h)⟩
mutual
inductive Rp (K : PySem.W.Frag) (G : Gh) : D → V → Prop where
  | non : Rp K G .non .non
  | bl (b : Bool) : Rp K G (.bl b) (.bl b)
  | int (i : Int) : Rp K G (.int i) (.int i)
  | str (x : Str) : Rp K G (.str x) (.str x)
  | tup {xs : List D} {a : Addr} {vs : List V} (h : SqT K G.F a vs) (r : Rps K G xs vs) : Rp K G (.tup xs) (.ref a)
  | lst {xs : List D} {a : Addr} {vs : List V} (h : G.F a = some (.lst vs)) (r : Rps K G xs vs) : Rp K G (.lst xs) (.ref a)
  | obj {c : String} {fs : List (String × D)} {a dx : Addr} {ws : List (Str × V)} (h : G.F a = some (.ins (He.ga K (Str.ofString c)) dx ws)) (r : Rpf K G fs ws) : Rp K G (.obj c fs) (.ref a)
  | loc {n : Nat} {a : Addr} (h : G.f n = some a) : Rp K G (.loc n) (.ref a)
  | cls (c : String) : Rp K G (.cls c) (.ref (He.ga K (Str.ofString c)))
  | fnc (f : String) : Rp K G (.fnc f) (.ref (He.ga K (Str.ofString f)))
  | ty (n : String) : Rp K G (.ty n) (.ty n)
  | src {xs : List D} {a : Addr} {vs : List V} (h : SqL K G.F a vs) (r : Rps K G xs vs) : Rp K G (.src xs) (.ref a)
  | dic0 {a : Addr} (h : G.F a = some (.dK [])) : Rp K G .dic0 (.ref a)
  | hob {o : HO} {a : Addr} (h : G.F a = some o) : Rp K G (.hob o) (.ref a)
  | exc0 {c : String} {a : Addr} (h : G.F a = some (ExV (.ref (He.ga K (Str.ofString c))) none a)) : Rp K G (.exc c []) (.ref a)
  | exc {c : String} {fs : List (String × D)} {a d : Addr} {ws : List (Str × V)} (h : G.F a = some (ExV (.ref (He.ga K (Str.ofString c))) (some d) a)) (hd : G.F d = some (.xd ws)) (r : Rpf K G fs ws) : Rp K G (.exc c fs) (.ref a)
  | ntp {xs : List D} {a : Addr} {vs : List V} {o : Obj} (h : G.F a = some (.frz o (.tup vs))) (hd : o.dict = none) (r : Rps K G xs vs) : Rp K G (.ntp xs) (.ref a)
inductive Rps (K : PySem.W.Frag) (G : Gh) : List D → List V → Prop where
  | nil : Rps K G [] []
  | cons {d : D} {v : V} {xs : List D} {vs : List V} (h : Rp K G d v) (t : Rps K G xs vs) : Rps K G (d :: xs) (v :: vs)
inductive Rpf (K : PySem.W.Frag) (G : Gh) : List (String × D) → List (Str × V) → Prop where
  | nil : Rpf K G [] []
  | cons {n : String} {d : D} {v : V} {fs : List (String × D)} {ws : List (Str × V)} (h : Rp K G d v) (t : Rpf K G fs ws) : Rpf K G ((n, d) :: fs) ((Str.ofString n, v) :: ws)
end
theorem SqT.mono {K : PySem.W.Frag} {F F' : Hp} {a : Addr} {vs : List V} (h : SqT K F a vs) (le : ∀ a o, F a = some o → F' a = some o) : SqT K F' a vs := by
  rcases h with (h | ⟨o, h⟩) | h
  · exact .inl (.inl (le _ _ h))
  · exact .inl (.inr ⟨o, le _ _ h⟩)
  · exact .inr h
theorem SqL.mono {K : PySem.W.Frag} {F F' : Hp} {a : Addr} {vs : List V} (h : SqL K F a vs) (le : ∀ a o, F a = some o → F' a = some o) : SqL K F' a vs := by
  rcases h with (h | ⟨o, h⟩) | h
  · exact .inl (.inl (le _ _ h))
  · exact .inl (.inr ⟨o, le _ _ h⟩)
  · exact .inr h
section
variable {K : PySem.W.Frag} {G G' : Gh}
theorem Rp.mono {d : D} {v : V} (h : Rp K G d v) (le : G.le G') : Rp K G' d v :=
  Rp.rec (motive_1 := fun d v _ => Rp K G' d v) (motive_2 := fun xs vs _ => Rps K G' xs vs) (motive_3 := fun fs ws _ => Rpf K G' fs ws)
    .non .bl .int .str (fun h _ r => .tup (SqT.mono h le.1) r) (fun h _ r => .lst (le.1 _ _ h) r) (fun h _ r => .obj (le.1 _ _ h) r) (fun h => .loc (le.2 _ _ h)) .cls .fnc .ty (fun h _ r => .src (SqL.mono h le.1) r) (fun h => .dic0 (le.1 _ _ h)) (fun h => .hob (le.1 _ _ h)) (fun h => .exc0 (le.1 _ _ h)) (fun h hd _ r => .exc (le.1 _ _ h) (le.1 _ _ hd) r) (fun h hd _ r => .ntp (le.1 _ _ h) hd r) .nil (fun _ _ a b => .cons a b) .nil (fun _ _ a b => .cons a b) h
theorem Rps.mono {xs : List D} {vs : List V} (h : Rps K G xs vs) (le : G.le G') : Rps K G' xs vs := by
  induction xs generalizing vs with
  | nil => cases h; exact .nil
  | cons x xs ih => cases h with | cons a b => exact .cons (a.mono le) (ih b)
theorem Rpf.mono {fs : List (String × D)} {ws : List (Str × V)} (h : Rpf K G fs ws) (le : G.le G') : Rpf K G' fs ws := by
  induction fs generalizing ws with
  | nil => cases h; exact .nil
  | cons x xs ih => cases h with | cons a b => exact .cons (a.mono le) (ih b)
theorem Rps.length {xs : List D} {vs : List V} (h : Rps K G xs vs) : vs.length = xs.length := by
  induction xs generalizing vs with
  | nil => cases h; rfl
  | cons x xs ih => cases h with | cons a b => simp [ih b]
theorem Rps.get {xs : List D} {vs : List V} {i : Nat} {d : D} (h : Rps K G xs vs) (e : xs[i]? = some d) : ∃ v, vs[i]? = some v ∧ Rp K G d v := by
  induction xs generalizing vs i with
  | nil => simp at e
  | cons x xs ih =>
    cases h with
    | cons a b =>
      cases i with
      | zero => simp at e; subst e; exact ⟨_, rfl, a⟩
      | succ i => obtain ⟨v, h1, h2⟩ := ih b (by simpa using e); exact ⟨v, by simpa using h1, h2⟩
theorem Rps.get' {xs : List D} {vs : List V} {i : Nat} {v : V} (h : Rps K G xs vs) (e : vs[i]? = some v) : ∃ d, xs[i]? = some d ∧ Rp K G d v := by
  induction xs generalizing vs i with
  | nil => cases h; simp at e
  | cons x xs ih =>
    cases h with
    | cons a b =>
      cases i with
      | zero => simp at e; subst e; exact ⟨_, rfl, a⟩
      | succ i => obtain ⟨v, h1, h2⟩ := ih b (by simpa using e); exact ⟨v, by simpa using h1, h2⟩
theorem Rps.append {xs ys : List D} {vs ws : List V} (h : Rps K G xs vs) (h' : Rps K G ys ws) : Rps K G (xs ++ ys) (vs ++ ws) := by
  induction xs generalizing vs with
  | nil => cases h; exact h'
  | cons x xs ih => cases h with | cons a b => exact .cons a (ih b)
theorem Rps.take {xs : List D} {vs : List V} (n : Nat) (h : Rps K G xs vs) : Rps K G (xs.take n) (vs.take n) := by
  induction xs generalizing vs n with
  | nil => cases h; simp; exact .nil
  | cons x xs ih =>
    cases h with
    | cons a b =>
      cases n with
      | zero => exact .nil
      | succ n => exact .cons a (ih n b)
theorem Rps.drop {xs : List D} {vs : List V} (n : Nat) (h : Rps K G xs vs) : Rps K G (xs.drop n) (vs.drop n) := by
  induction xs generalizing vs n with
  | nil => cases h; simp; exact .nil
  | cons x xs ih =>
    cases h with
    | cons a b =>
      cases n with
      | zero => exact .cons a b
      | succ n => exact ih n b
theorem Rps.set {xs : List D} {vs : List V} {d : D} {v : V} (i : Nat) (h : Rps K G xs vs) (r : Rp K G d v) : Rps K G (xs.set i d) (vs.set i v) := by
  induction xs generalizing vs i with
  | nil => cases h; exact .nil
  | cons x xs ih =>
    cases h with
    | cons a b =>
      cases i with
      | zero => exact .cons r b
      | succ i => exact .cons a (ih i b)
theorem Rpf.get {fs : List (String × D)} {ws : List (Str × V)} {n : String} {d : D} (h : Rpf K G fs ws) (e : fs.lookup n = some d) (inj : ∀ p ∈ fs, Str.ofString p.1 = Str.ofString n → p.1 = n) : ∃ v, ws.lookup (Str.ofString n) = some v ∧ Rp K G d v := by
  induction fs generalizing ws with
  | nil => simp at e
  | cons x xs ih =>
    cases h with
    | @cons m d' v' _ ws' a b =>
      by_cases hm : n = m
      · subst hm
        simp at e
        subst e
        exact ⟨v', by simp, a⟩
      · have h1 : (n == m) = false := by simpa using hm
        rw [List.lookup_cons, h1] at e
        obtain ⟨v, p, q⟩ := ih b e fun p hp => inj p (List.mem_cons_of_mem _ hp)
        refine ⟨v, ?_, q⟩
        have h2 : (Str.ofString n == Str.ofString m) = false := by
          apply beq_eq_false_iff_ne.mpr
          intro z
          exact hm (inj (m, d') List.mem_cons_self z.symm).symm
        rw [List.lookup_cons, h2]
        exact p
end
inductive Rpk (K : PySem.W.Frag) (G : Gh) : List (Str × D) → List (Key × V) → Prop where
  | nil : Rpk K G [] []
  | cons {x : Str} {d : D} {v : V} {es : List (Str × D)} {kvs : List (Key × V)} (h : Rp K G d v) (t : Rpk K G es kvs) : Rpk K G ((x, d) :: es) ((.inr x, v) :: kvs)
theorem Rpk.mono {K : PySem.W.Frag} {G G' : Gh} {es : List (Str × D)} {kvs : List (Key × V)} (h : Rpk K G es kvs) (le : G.le G') : Rpk K G' es kvs := by
  induction h with
  | nil => exact .nil
  | cons a _ ih => exact .cons (a.mono le) ih
def Soft (H H' : Hp) : Prop := ∀ b o, H b = some o → ((∃ ps, o = .tbl ps) ∨ ∃ φ, o = .ext φ) → H' b = some o
theorem tabs_soft {T : List (Addr × Str)} {H H' : Hp} (t : LamX.Tabs T H) (e : Soft H H') : LamX.Tabs T H' := fun p hp => by
  obtain ⟨ps, h1, h2, h3⟩ := t p hp
  refine ⟨ps, e _ _ h1 (.inl ⟨ps, rfl⟩), h2, fun pos cv hc => ?_⟩
  obtain ⟨c, e1, e2⟩ := h3 pos cv hc
  exact ⟨c, e1, e _ _ e2 (.inr ⟨_, rfl⟩)⟩
theorem Soft.ext {H H' : Hp} (e : Ext H H') : Soft H H' := fun b o h _ => e b o h
theorem Soft.upd {H : Hp} {p : Addr} {o : HO} (h : ∀ u, H p = some u → (∀ ps, u ≠ .tbl ps) ∧ ∀ φ, u ≠ .ext φ) : Soft H (upd H p o) := fun b u e k => by
  rw [upd_ne fun z => ?_]
  · exact e
  · subst z
    rcases k with ⟨ps, k⟩ | ⟨φ, k⟩
    · exact (h u e).1 ps k
    · exact (h u e).2 φ k
theorem Soft.fresh {H : Hp} {p : Addr} {o : HO} (h : H p = none) : Soft H (L2.upd H p o) := Soft.upd fun u e => by rw [h] at e; cases e
def CellOk (K : PySem.W.Frag) (G : Gh) (H : Hp) (a : Addr) : Cell → Prop
  | .lst xs => ∃ vs, H a = some (.lst vs) ∧ Rps K G xs vs
  | .ins c fs => ∃ dx ws, H a = some (.ins (He.ga K (Str.ofString c)) dx ws) ∧ Rpf K G fs ws
  | .dead => True
  | .dic es => ∃ kvs, H a = some (.dK kvs) ∧ Rpk K G es kvs
structure Sm (K : PySem.W.Frag) (G : Gh) (S : Sto) (H : Hp) : Prop where
  fr : ∀ a o, G.F a = some o → H a = some o
  cel : ∀ (n : Nat) (c : Cell), S[n]? = some c → c ≠ .dead → ∃ a, G.f n = some a ∧ G.F a = none ∧ CellOk K G H a c
  dom : ∀ n a, G.f n = some a → n < S.length
  inj : ∀ n m a, G.f n = some a → G.f m = some a → n = m
  dn : ∀ n a, G.f n = some a → ∃ o, H a = some o ∧ NoT o
  nt : ∀ a o, G.F a = some o → NoT o
  tb : LamX.Tabs (tbs K) H
theorem CellOk.mono {K : PySem.W.Frag} {G G' : Gh} {H H' : Hp} {a : Addr} {c : Cell} (h : CellOk K G H a c) (le : G.le G') (e : ∀ o, H a = some o → H' a = some o) : CellOk K G' H' a c := by
  cases c with
  | lst xs => obtain ⟨vs, h1, h2⟩ := h; exact ⟨vs, e _ h1, h2.mono le⟩
  | ins c fs => obtain ⟨dx, ws, h1, h2⟩ := h; exact ⟨dx, ws, e _ h1, h2.mono le⟩
  | dead => trivial
  | dic es => obtain ⟨kvs, h1, h2⟩ := h; exact ⟨kvs, e _ h1, h2.mono le⟩
theorem CellOk.hard {K : PySem.W.Frag} {G : Gh} {H : Hp} {a : Addr} {c : Cell} (h : CellOk K G H a c) (nd : c ≠ .dead) : ∃ o, H a = some o ∧ (∀ ps, o ≠ .tbl ps) ∧ ∀ φ, o ≠ .ext φ := by
  cases c with
  | lst xs => obtain ⟨vs, h1, _⟩ := h; exact ⟨_, h1, (fun _ z => by cases z), (fun _ z => by cases z)⟩
  | ins c fs => obtain ⟨dx, ws, h1, _⟩ := h; exact ⟨_, h1, (fun _ z => by cases z), (fun _ z => by cases z)⟩
  | dead => exact absurd rfl nd
  | dic es => obtain ⟨kvs, h1, _⟩ := h; exact ⟨_, h1, (fun _ z => by cases z), (fun _ z => by cases z)⟩
theorem CellOk.has {K : PySem.W.Frag} {G : Gh} {H : Hp} {a : Addr} {c : Cell} (h : CellOk K G H a c) (nd : c ≠ .dead) : ∃ o, H a = some o := by
  cases c with
  | lst xs => obtain ⟨vs, h1, _⟩ := h; exact ⟨_, h1⟩
  | ins c fs => obtain ⟨dx, ws, h1, _⟩ := h; exact ⟨_, h1⟩
  | dead => exact absurd rfl nd
  | dic es => obtain ⟨kvs, h1, _⟩ := h; exact ⟨_, h1⟩
section
variable {K : PySem.W.Frag} {G G' : Gh} {S : Sto} {H H' : Hp}
theorem Sm.ext (m : Sm K G S H) (e : Ext H H') : Sm K G S H' where
  fr := fun a o h => e _ _ (m.fr a o h)
  cel := fun n c h nd => by
    obtain ⟨a, h1, h2, h3⟩ := m.cel n c h nd
    exact ⟨a, h1, h2, h3.mono .refl fun o => e _ _⟩
  dom := m.dom
  inj := m.inj
  dn := fun n a h => let ⟨o, z, y⟩ := m.dn n a h; ⟨o, e _ _ z, y⟩
  nt := m.nt
  tb := tabs_soft m.tb (.ext e)
def Gh.put (G : Gh) (p : Addr) (o : HO) : Gh := ⟨upd G.F p o, G.f⟩
theorem Gh.put_le {G : Gh} {p : Addr} {o : HO} (h : G.F p = none) : G.le (G.put p o) := ⟨fun a u e => by
  show upd G.F p o a = _
  rw [upd_ne (ne_of_none e h)]
  exact e, fun _ _ h => h⟩
theorem Sm.free (m : Sm K G S H) {p : Addr} (h : H p = none) : G.F p = none := by
  cases e : G.F p with
  | none => rfl
  | some o => rw [m.fr _ _ e] at h; cases h
theorem Gh.put_nt {G : Gh} {p : Addr} {o : HO} (m : ∀ a o, G.F a = some o → NoT o) (ht : NoT o) : ∀ a u, (G.put p o).F a = some u → NoT u := fun a u e => by
  have e' : upd G.F p o a = some u := e
  by_cases z : a = p
  · rw [z, upd_same] at e'
    cases e'
    exact ht
  · rw [upd_ne z] at e'
    exact m a u e'
theorem Sm.put (m : Sm K G S H) {p : Addr} {o : HO} (h : H p = none) (ht : NoT o := by intro _ z; cases z) : Sm K (G.put p o) S (upd H p o) where
  fr := fun a u e => by
    by_cases q : a = p
    · subst q
      rw [upd_same]
      have e' : upd G.F a o a = some u := e
      rw [upd_same] at e'
      exact e'
    · have e' : upd G.F p o a = some u := e
      rw [upd_ne q] at e'
      rw [upd_ne q]
      exact m.fr _ _ e'
  cel := fun n c e nd => by
    obtain ⟨a, h1, h2, h3⟩ := m.cel n c e nd
    obtain ⟨u, hu⟩ := h3.has nd
    have na := ne_of_none hu h
    refine ⟨a, h1, ?_, h3.mono (Gh.put_le (m.free h)) fun o' q => by rw [upd_ne na]; exact q⟩
    show upd G.F p o a = none
    rw [upd_ne na]
    exact h2
  dom := m.dom
  inj := m.inj
  dn := fun n a e => by
    obtain ⟨u, hu, nu⟩ := m.dn n a e
    exact ⟨u, by rw [upd_ne (ne_of_none hu h)]; exact hu, nu⟩
  nt := Gh.put_nt m.nt ht
  tb := tabs_soft m.tb (.fresh h)
def Gh.new (G : Gh) (n : Nat) (p : Addr) : Gh := ⟨G.F, fun m => if m = n then some p else G.f m⟩
theorem Gh.new_at {G : Gh} {n : Nat} {p : Addr} : (G.new n p).f n = some p := if_pos rfl
theorem Sm.new_le (m : Sm K G S H) {p : Addr} : G.le (G.new S.length p) := ⟨fun _ _ h => h, fun n a h => by
  have := m.dom n a h
  show (if n = S.length then some p else G.f n) = some a
  rw [if_neg (by omega)]
  exact h⟩
theorem Sm.addr (m : Sm K G S H) {n : Nat} {c : Cell} {a : Addr} (h : S[n]? = some c) (nd : c ≠ .dead) (e : G.f n = some a) : G.F a = none ∧ CellOk K G H a c := by
  obtain ⟨b, h1, h2, h3⟩ := m.cel n c h nd
  rw [h1] at e
  have e' := Option.some.inj e
  subst e'
  exact ⟨h2, h3⟩
theorem Sm.new (m : Sm K G S H) {p : Addr} {o : HO} {c : Cell} (h : H p = none) (hc : CellOk K (G.new S.length p) (upd H p o) p c) (ht : NoT o := by intro _ z; cases z) : Sm K (G.new S.length p) (S ++ [c]) (upd H p o) where
  fr := fun a u e => by
    have := m.fr a u e
    rw [upd_ne (ne_of_none this h)]
    exact this
  cel := fun n c' e nd => by
    by_cases q : n < S.length
    · rw [List.getElem?_append_left q] at e
      obtain ⟨a, h1, h2, h3⟩ := m.cel n c' e nd
      obtain ⟨u, hu⟩ := h3.has nd
      have na := ne_of_none hu h
      exact ⟨a, m.new_le.2 _ _ h1, h2, h3.mono m.new_le fun o' q => by rw [upd_ne na]; exact q⟩
    · have q2 : n = S.length := by
        have : n < (S ++ [c]).length := (List.getElem?_eq_some_iff.mp e).1
        simp at this
        omega
      subst q2
      simp at e
      subst e
      exact ⟨p, Gh.new_at, m.free h, hc⟩
  dom := fun n a e => by
    simp
    by_cases q : n = S.length
    · omega
    · have e' : (if n = S.length then some p else G.f n) = some a := e
      rw [if_neg q] at e'
      have := m.dom n a e'
      omega
  inj := fun n k a e1 e2 => by
    have e1' : (if n = S.length then some p else G.f n) = some a := e1
    have e2' : (if k = S.length then some p else G.f k) = some a := e2
    by_cases q1 : n = S.length
    · by_cases q2 : k = S.length
      · omega
      · rw [if_pos q1] at e1'
        rw [if_neg q2] at e2'
        cases e1'
        obtain ⟨o, ho, _⟩ := m.dn _ _ e2'
        rw [h] at ho
        cases ho
    · by_cases q2 : k = S.length
      · rw [if_neg q1] at e1'
        rw [if_pos q2] at e2'
        cases e2'
        obtain ⟨o, ho, _⟩ := m.dn _ _ e1'
        rw [h] at ho
        cases ho
      · rw [if_neg q1] at e1'
        rw [if_neg q2] at e2'
        exact m.inj _ _ _ e1' e2'
  dn := fun n a e => by
    have e' : (if n = S.length then some p else G.f n) = some a := e
    by_cases q : n = S.length
    · rw [if_pos q] at e'
      cases e'
      exact ⟨o, upd_same, ht⟩
    · rw [if_neg q] at e'
      obtain ⟨u, hu, nu⟩ := m.dn n a e'
      exact ⟨u, by rw [upd_ne (ne_of_none hu h)]; exact hu, nu⟩
  nt := m.nt
  tb := tabs_soft m.tb (.fresh h)
theorem Sm.write (m : Sm K G S H) {n : Nat} {a : Addr} {c c' : Cell} {o : HO} (h : S[n]? = some c) (nd : c ≠ .dead) (e : G.f n = some a) (hc : CellOk K G (upd H a o) a c') (ht : NoT o := by intro _ z; cases z) : Sm K G (S.set n c') (upd H a o) where
  fr := fun b u q => by
    have hF := (m.addr h nd e).1
    rw [upd_ne (ne_of_none q hF)]
    exact m.fr _ _ q
  cel := fun k d q nd' => by
    by_cases hk : n = k
    · subst hk
      have hl : n < S.length := (List.getElem?_eq_some_iff.mp h).1
      rw [List.getElem?_set_self hl] at q
      cases q
      exact ⟨a, e, (m.addr h nd e).1, hc⟩
    · rw [List.getElem?_set_ne hk] at q
      obtain ⟨b, h1, h2, h3⟩ := m.cel k d q nd'
      have nb : b ≠ a := fun z => by
        subst z
        exact hk (m.inj _ _ _ e h1)
      exact ⟨b, h1, h2, h3.mono .refl fun o' z => by rw [upd_ne nb]; exact z⟩
  dom := fun k b q => by
    rw [List.length_set]
    exact m.dom k b q
  inj := m.inj
  dn := fun k b q => by
    by_cases z : b = a
    · exact ⟨o, by rw [z]; exact upd_same, ht⟩
    · obtain ⟨u, hu, nu⟩ := m.dn k b q
      exact ⟨u, by rw [upd_ne z]; exact hu, nu⟩
  nt := m.nt
  tb := tabs_soft m.tb (.upd fun u hu => by
    obtain ⟨o1, e1, n1⟩ := (m.addr h nd e).2.hard nd
    rw [hu] at e1
    cases e1
    exact n1)
theorem Sm.freeze (m : Sm K G S H) {n : Nat} {a : Addr} {c : Cell} {o : HO} (h : S[n]? = some c) (nd : c ≠ .dead) (e : G.f n = some a) (ho : H a = some o) (ht : NoT o := by intro _ z; cases z) : Sm K (G.put a o) (S.set n .dead) H where
  fr := fun b u q => by
    have q' : upd G.F a o b = some u := q
    by_cases z : b = a
    · subst z
      rw [upd_same] at q'
      rw [← q']
      exact ho
    · rw [upd_ne z] at q'
      exact m.fr _ _ q'
  cel := fun k d q nd' => by
    by_cases hk : n = k
    · subst hk
      have hl : n < S.length := (List.getElem?_eq_some_iff.mp h).1
      rw [List.getElem?_set_self hl] at q
      cases q
      exact absurd rfl nd'
    · rw [List.getElem?_set_ne hk] at q
      obtain ⟨b, h1, h2, h3⟩ := m.cel k d q nd'
      have nb : b ≠ a := fun z => by
        subst z
        exact hk (m.inj _ _ _ e h1)
      refine ⟨b, h1, ?_, h3.mono (Gh.put_le (m.addr h nd e).1) fun o' z => z⟩
      show upd G.F a o b = none
      rw [upd_ne nb]
      exact h2
  dom := fun k b q => by
    rw [List.length_set]
    exact m.dom k b q
  inj := m.inj
  dn := m.dn
  nt := Gh.put_nt m.nt ht
  tb := m.tb
end
structure Stp (G : Gh) (H : Hp) (G' : Gh) (H' : Hp) : Prop where
  le : G.le G'
  dom : ∀ a o, H a = some o → NoT o → ∃ o', H' a = some o' ∧ NoT o'
  frm : ∀ a o, H a = some o → NoT o → (∀ n, G.f n ≠ some a) → H' a = some o
  new : ∀ n a, G'.f n = some a → G.f n = some a ∨ Fr0 H a
  fro : ∀ a o, G'.F a = some o → G.F a = some o ∨ Fr0 H a ∨ ∃ n, G.f n = some a
theorem fr0_not {H : Hp} {a : Addr} {o : HO} (z : Fr0 H a) (h : H a = some o) (nt : NoT o) : False := by
  obtain ⟨ps, e⟩ := z o h
  exact nt ps e
section
variable {K : PySem.W.Frag} {G G' G'' : Gh} {S : Sto} {H H' H'' : Hp}
theorem Stp.refl : Stp G H G H := ⟨.refl, fun _ o h n => ⟨o, h, n⟩, fun _ _ h _ _ => h, fun _ _ h => .inl h, fun _ _ h => .inl h⟩
theorem Stp.none_of (x : Stp G H G' H') {a : Addr} (q : Fr0 H' a) : Fr0 H a := fun o h => by
  by_cases nt : NoT o
  · obtain ⟨o', h', n'⟩ := x.dom a o h nt
    exact (fr0_not q h' n').elim
  · exact Classical.byContradiction fun z => nt fun ps e => z ⟨ps, e⟩
theorem Stp.trans (x : Stp G H G' H') (y : Stp G' H' G'' H'') : Stp G H G'' H'' where
  le := x.le.trans y.le
  dom := fun a o h n => let ⟨o', h', n'⟩ := x.dom a o h n; y.dom a o' h' n'
  frm := fun a o h nt hn => y.frm a o (x.frm a o h nt hn) nt fun n e => by
    rcases x.new n a e with q | q
    · exact hn n q
    · exact fr0_not q h nt
  new := fun n a e => by
    rcases y.new n a e with q | q
    · exact x.new n a q
    · exact .inr (x.none_of q)
  fro := fun a o e => by
    rcases y.fro a o e with q | q | ⟨n, q⟩
    · exact x.fro a o q
    · exact .inr (.inl (x.none_of q))
    · rcases x.new n a q with q | q
      · exact .inr (.inr ⟨n, q⟩)
      · exact .inr (.inl q)
theorem Stp.ext (e : Ext H H') : Stp G H G H' := ⟨.refl, fun _ o h n => ⟨o, e _ _ h, n⟩, fun _ _ h _ _ => e _ _ h, fun _ _ h => .inl h, fun _ _ h => .inl h⟩
theorem Stp.put {p : Addr} {o : HO} (sm : Sm K G S H) (hp : H p = none) : Stp G H (G.put p o) (upd H p o) :=
  ⟨Gh.put_le (sm.free hp), fun a u h n => ⟨u, by rw [upd_ne (ne_of_none h hp)]; exact h, n⟩, fun a u h _ _ => by rw [upd_ne (ne_of_none h hp)]; exact h, fun _ _ h => .inl h, fun a u h => by
    have h' : upd G.F p o a = some u := h
    by_cases z : a = p
    · exact .inr (.inl (by rw [z]; exact fr0_none hp))
    · rw [upd_ne z] at h'
      exact .inl h'⟩
theorem Stp.cell {p : Addr} {o : HO} (sm : Sm K G S H) (hp : H p = none) : Stp G H (G.new S.length p) (upd H p o) :=
  ⟨sm.new_le, fun a u h n => ⟨u, by rw [upd_ne (ne_of_none h hp)]; exact h, n⟩, fun a u h _ _ => by rw [upd_ne (ne_of_none h hp)]; exact h, fun n a h => by
    have h' : (if n = S.length then some p else G.f n) = some a := h
    by_cases q : n = S.length
    · rw [if_pos q] at h'
      cases h'
      exact .inr (fr0_none hp)
    · rw [if_neg q] at h'
      exact .inl h', fun _ _ h => .inl h⟩
theorem Stp.write {n : Nat} {a : Addr} {o : HO} (e : G.f n = some a) (ht : NoT o := by intro _ z; cases z) : Stp G H G (upd H a o) :=
  ⟨.refl, fun b u h nt => by
    by_cases z : b = a
    · exact ⟨o, by rw [z]; exact upd_same, ht⟩
    · exact ⟨u, by rw [upd_ne z]; exact h, nt⟩, fun b u h _ hn => by
    have z : b ≠ a := fun z => hn n (by rw [z]; exact e)
    rw [upd_ne z]
    exact h, fun _ _ h => .inl h, fun _ _ h => .inl h⟩
theorem Stp.freeze {n : Nat} {a : Addr} {o : HO} (hn : G.f n = some a) (h : G.F a = none) : Stp G H (G.put a o) H := ⟨Gh.put_le h, fun _ o h n => ⟨o, h, n⟩, fun _ _ h _ _ => h, fun _ _ h => .inl h, fun b u e => by
  have e' : upd G.F a o b = some u := e
  by_cases z : b = a
  · exact .inr (.inr ⟨n, by rw [z]; exact hn⟩)
  · rw [upd_ne z] at e'
    exact .inl e'⟩
theorem Stp.at {p : Addr} {o : HO} (x : Stp G H G' H') (hp : H p = none) : Stp G H G' (upd H' p o) :=
  ⟨x.le, fun a u h n => by
    obtain ⟨u', h', n'⟩ := x.dom a u h n
    exact ⟨u', by rw [upd_ne (ne_of_none h hp)]; exact h', n'⟩, fun a u h nt hn => by
    rw [upd_ne (ne_of_none h hp)]
    exact x.frm a u h nt hn, x.new, x.fro⟩
theorem Stp.add {p : Addr} {o : HO} (x : Stp G H G' H') (hp : H p = none) (hF : G'.F p = none) : Stp G H (G'.put p o) H' :=
  ⟨x.le.trans (Gh.put_le hF), x.dom, x.frm, x.new, fun a u h => by
    have h' : upd G'.F p o a = some u := h
    by_cases z : a = p
    · exact .inr (.inl (by rw [z]; exact fr0_none hp))
    · rw [upd_ne z] at h'
      exact x.fro a u h'⟩
theorem Sm.other {p : Addr} {o : HO} (m : Sm K G S H) (hF : G.F p = none) (hc : ∀ n, G.f n ≠ some p) (hh : ∀ u, H p = some u → (∀ ps, u ≠ .tbl ps) ∧ ∀ φ, u ≠ .ext φ) : Sm K G S (upd H p o) where
  fr := fun a u e => by rw [upd_ne (ne_of_none e hF)]; exact m.fr a u e
  cel := fun n c e nd => by
    obtain ⟨a, h1, h2, h3⟩ := m.cel n c e nd
    exact ⟨a, h1, h2, h3.mono .refl fun o' q => by rw [upd_ne fun z => hc n (by rw [← z]; exact h1)]; exact q⟩
  dom := m.dom
  inj := m.inj
  dn := fun n a e => by
    obtain ⟨u, hu, nu⟩ := m.dn n a e
    exact ⟨u, by rw [upd_ne fun z => hc n (by rw [← z]; exact e)]; exact hu, nu⟩
  nt := m.nt
  tb := tabs_soft m.tb (.upd hh)
theorem Sm.tell {p : Addr} {o : HO} (m : Sm K G S H) (hp : H p = some o) (hc : ∀ n, G.f n ≠ some p) (ht : NoT o := by intro _ z; cases z) : Sm K (G.put p o) S H where
  fr := fun a u e => by
    have e' : upd G.F p o a = some u := e
    by_cases z : a = p
    · subst z
      rw [upd_same] at e'
      rw [← e']
      exact hp
    · rw [upd_ne z] at e'
      exact m.fr a u e'
  cel := fun n c e nd => by
    obtain ⟨a, h1, h2, h3⟩ := m.cel n c e nd
    have z : a ≠ p := fun z => hc n (by rw [← z]; exact h1)
    have hF : ∀ b u, G.F b = some u → (G.put p o).F b = some u := fun b u q => by
      show upd G.F p o b = some u
      by_cases y : b = p
      · subst y
        have := m.fr _ _ q
        rw [hp] at this
        cases this
        exact upd_same
      · rw [upd_ne y]
        exact q
    refine ⟨a, h1, ?_, h3.mono ⟨hF, fun _ _ h => h⟩ fun _ q => q⟩
    show upd G.F p o a = none
    rw [upd_ne z]
    exact h2
  dom := m.dom
  inj := m.inj
  dn := m.dn
  nt := Gh.put_nt m.nt ht
  tb := m.tb
theorem Sm.adopt {p : Addr} {o : HO} {c : Cell} (m : Sm K G S H) (hp : H p = some o) (hF : G.F p = none) (hc : ∀ n, G.f n ≠ some p) (h : CellOk K (G.new S.length p) H p c) (ht : NoT o := by intro _ z; cases z) : Sm K (G.new S.length p) (S ++ [c]) H where
  fr := m.fr
  cel := fun n c' e nd => by
    by_cases q : n < S.length
    · rw [List.getElem?_append_left q] at e
      obtain ⟨a, h1, h2, h3⟩ := m.cel n c' e nd
      exact ⟨a, m.new_le.2 _ _ h1, h2, h3.mono m.new_le fun _ z => z⟩
    · have q2 : n = S.length := by
        have : n < (S ++ [c]).length := (List.getElem?_eq_some_iff.mp e).1
        simp at this
        omega
      subst q2
      simp at e
      subst e
      exact ⟨p, Gh.new_at, hF, h⟩
  dom := fun n a e => by
    simp
    by_cases q : n = S.length
    · omega
    · have e' : (if n = S.length then some p else G.f n) = some a := e
      rw [if_neg q] at e'
      have := m.dom n a e'
      omega
  inj := fun n k a e1 e2 => by
    have e1' : (if n = S.length then some p else G.f n) = some a := e1
    have e2' : (if k = S.length then some p else G.f k) = some a := e2
    by_cases q1 : n = S.length
    · by_cases q2 : k = S.length
      · omega
      · rw [if_pos q1] at e1'
        rw [if_neg q2] at e2'
        cases e1'
        exact absurd e2' (hc k)
    · by_cases q2 : k = S.length
      · rw [if_neg q1] at e1'
        rw [if_pos q2] at e2'
        cases e2'
        exact absurd e1' (hc n)
      · rw [if_neg q1] at e1'
        rw [if_neg q2] at e2'
        exact m.inj _ _ _ e1' e2'
  dn := fun n a e => by
    have e' : (if n = S.length then some p else G.f n) = some a := e
    by_cases q : n = S.length
    · rw [if_pos q] at e'
      cases e'
      exact ⟨o, hp, ht⟩
    · rw [if_neg q] at e'
      exact m.dn n a e'
  nt := m.nt
  tb := m.tb
end
end PV
set_option Elab.async false
set_option linter.all false
set_option maxRecDepth 100000
set_option maxHeartbeats 4000000
namespace PV
open PySem PySem.Spec PyProof.Rows L2 ZL
inductive Out (α : Type) where
  | ok (a : α) (S : Sto) | ex (c : String) (fs : List (String × D)) (S : Sto) | no
def Out.bind {α β : Type} (o : Out α) (k : α → Sto → Out β) : Out β := match o with
  | .ok a S => k a S
  | .ex c fs S => .ex c fs S
  | .no => .no
abbrev Ev := List (Option D)
abbrev ME := Ev → Sto → Out D
abbrev MT := Ev → Sto → Out Bool
abbrev MA := Ev → Sto → Out (List D)
inductive Fl where
  | nx (ρ : Ev) | rt (d : D) | bk (ρ : Ev) | ct (ρ : Ev)
abbrev MS := Ev → Sto → Out Fl
abbrev Fn := List D → Sto → Out D
def ExR (K : PySem.W.Frag) (G : Gh) (c : String) (fs : List (String × D)) (cls : Value) (dd : Option Addr) : Prop :=
  cls = .ref (He.ga K (Str.ofString c)) ∧ ((fs = [] ∧ dd = none) ∨ ∃ d ws, dd = some d ∧ G.F d = some (.xd ws) ∧ Rpf K G fs ws)
def wEx (K : PySem.W.Frag) (G : Gh) (H : Hp) (c : String) (fs : List (String × D)) (S : Sto) : XK := fun cls dd H' => ∃ G', Stp G H G' H' ∧ Sm K G' S H' ∧ ExR K G' c fs cls dd
theorem wEx.anti {K : PySem.W.Frag} {G G1 : Gh} {H H1 : Hp} {c : String} {fs : List (String × D)} {S : Sto} {cls : Value} {dd : Option Addr} {H' : Hp} (le : Stp G H G1 H1) (h : wEx K G1 H1 c fs S cls dd H') : wEx K G H c fs S cls dd H' := by
  obtain ⟨G', l, r⟩ := h
  exact ⟨G', le.trans l, r⟩
def sat {α β : Type} (X : Cx) (R : Gh → α → β → Prop) (G : Gh) (H : Hp) (o : Out α) (Q : β → Hp → Prop) : Prop := match o with
  | .ok a S' => ∀ G' H' b, Stp G H G' H' → Sm X.K G' S' H' → R G' a b → Q b H'
  | .ex c fs S' => Takes X (fun cls dd _ H' => wEx X.K G H c fs S' cls dd H')
  | .no => False
section
variable {X : Cx} {α β γ δ : Type} {R : Gh → α → β → Prop} {R' : Gh → γ → δ → Prop} {G G1 : Gh} {H H1 : Hp} {o : Out α} {Q Q' : β → Hp → Prop}
theorem sat.mono (h : sat X R G H o Q) (le : Stp G H G1 H1) : sat X R G1 H1 o Q := by
  cases o with
  | ok a S => exact fun G' H' b l => h G' H' b (le.trans l)
  | ex c fs S => exact Takes.imp h fun _ _ _ _ z => z.anti le
  | no => exact h
theorem sat.imp (h : sat X R G H o Q) (i : ∀ b H, Q b H → Q' b H) : sat X R G H o Q' := by
  cases o with
  | ok a S => exact fun G' H' b l s r => i _ _ (h G' H' b l s r)
  | ex c fs S => exact h
  | no => exact h
def Aft (X : Cx) (R : Gh → α → β → Prop) (G : Gh) (H : Hp) (P : α → Sto → Gh → Hp → Prop) (b : β) (H1 : Hp) : Prop := ∃ a S1 G1, Stp G H G1 H1 ∧ Sm X.K G1 S1 H1 ∧ R G1 a b ∧ P a S1 G1 H1
theorem sat.bind {k : α → Sto → Out γ} {Q2 : δ → Hp → Prop} (h : sat X R' G H (o.bind k) Q2) : sat X R G H o (Aft X R G H fun a S1 G1 H1 => sat X R' G1 H1 (k a S1) Q2) := by
  cases o with
  | ok a S => exact fun G' H' b l s r => ⟨a, S, G', l, s, r, h.mono l⟩
  | ex c fs S => exact h
  | no => exact h
end
inductive Re (K : PySem.W.Frag) (G : Gh) : Ev → L2.St → Prop where
  | nil : Re K G [] []
  | skp {ρ : Ev} {σ : L2.St} {v : Option V} (t : Re K G ρ σ) : Re K G (none :: ρ) (v :: σ)
  | has {ρ : Ev} {σ : L2.St} {d : D} {v : V} (h : Rp K G d v) (t : Re K G ρ σ) : Re K G (some d :: ρ) (some v :: σ)
section
variable {K : PySem.W.Frag} {G G' : Gh} {ρ : Ev} {σ : L2.St}
theorem Re.mono (h : Re K G ρ σ) (le : G.le G') : Re K G' ρ σ := by
  induction h with
  | nil => exact .nil
  | skp _ ih => exact .skp ih
  | has r _ ih => exact .has (r.mono le) ih
theorem Re.get {i : Nat} {d : D} (h : Re K G ρ σ) (e : ρ[i]? = some (some d)) : ∃ v, σ[i]? = some (some v) ∧ Rp K G d v := by
  induction h generalizing i with
  | nil => simp at e
  | skp _ ih =>
    cases i with
    | zero => simp at e
    | succ i => obtain ⟨v, h1, h2⟩ := ih (i := i) (by simpa using e); exact ⟨v, by simpa using h1, h2⟩
  | has r _ ih =>
    cases i with
    | zero => simp at e; subst e; exact ⟨_, rfl, r⟩
    | succ i => obtain ⟨v, h1, h2⟩ := ih (i := i) (by simpa using e); exact ⟨v, by simpa using h1, h2⟩
theorem Re.set {d : D} {v : V} (h : Re K G ρ σ) (i : Nat) (r : Rp K G d v) : Re K G (ρ.set i (some d)) (σ.set i (some v)) := by
  induction h generalizing i with
  | nil => exact .nil
  | skp t ih =>
    cases i with
    | zero => exact .has r t
    | succ i => exact .skp (ih i)
  | has q t ih =>
    cases i with
    | zero => exact .has r t
    | succ i => exact .has q (ih i)
theorem Re.forget (h : Re K G ρ σ) (i : Nat) (v : Option V) : Re K G (ρ.set i none) (σ.set i v) := by
  induction h generalizing i with
  | nil => exact .nil
  | skp t ih =>
    cases i with
    | zero => exact .skp t
    | succ i => exact .skp (ih i)
  | has q t ih =>
    cases i with
    | zero => exact .skp t
    | succ i => exact .has q (ih i)
theorem Re.reps (n : Nat) : Re K G (List.replicate n none) (List.replicate n none) := by
  induction n with
  | zero => exact .nil
  | succ n ih => exact .skp ih
theorem Re.start {ds : List D} {vs : List V} (h : Rps K G ds vs) (n : Nat) : Re K G (ds.map some ++ List.replicate n none) (vs.map some ++ List.replicate n none) := by
  induction ds generalizing vs with
  | nil => cases h; exact Re.reps n
  | cons x xs ih => cases h with | cons a b => exact .has a (ih b)
end
def tE (X : Cx) (m : ME) : TE := fun σ H Q => ∃ ρ S G, Sm X.K G S H ∧ Re X.K G ρ σ ∧ sat X (Rp X.K) G H (m ρ S) Q
def tT (X : Cx) (m : MT) : TT := fun σ H Q => ∃ ρ S G, Sm X.K G S H ∧ Re X.K G ρ σ ∧ sat X (fun _ a b => a = b) G H (m ρ S) Q
def tA (X : Cx) (m : MA) : TA := fun σ H Q => ∃ ρ S G, Sm X.K G S H ∧ Re X.K G ρ σ ∧ sat X (Rps X.K) G H (m ρ S) Q
def satS (X : Cx) (G : Gh) (H : Hp) (o : Out Fl) (D : Ends) : Prop := match o with
  | .ok (.nx ρ') S' => ∀ G' H' σ', Stp G H G' H' → Sm X.K G' S' H' → Re X.K G' ρ' σ' → D.nx σ' H'
  | .ok (.rt d) S' => ∀ G' H' v, Stp G H G' H' → Sm X.K G' S' H' → Rp X.K G' d v → D.rt v H'
  | .ok (.bk ρ') S' => ∀ G' H' σ', Stp G H G' H' → Sm X.K G' S' H' → Re X.K G' ρ' σ' → D.bk σ' H'
  | .ok (.ct ρ') S' => ∀ G' H' σ', Stp G H G' H' → Sm X.K G' S' H' → Re X.K G' ρ' σ' → D.ct σ' H'
  | .ex c fs S' => Takes X (fun cls dd _ H' => wEx X.K G H c fs S' cls dd H')
  | .no => False
def tS (X : Cx) (m : MS) : TS := fun D σ H => ∃ ρ S G, Sm X.K G S H ∧ Re X.K G ρ σ ∧ satS X G H (m ρ S) D
abbrev QE (X : Cx) (e : Expr) (m : ME) : Prop := PE X e (tE X m)
abbrev QT (X : Cx) (e : Expr) (m : MT) : Prop := PT X e (tT X m)
abbrev QA (X : Cx) (es : List Expr) (m : MA) : Prop := PA X es (tA X m)
abbrev QS (X : Cx) (st : Stmt) (m : MS) : Prop := PS X st (tS X m)
abbrev QSs (X : Cx) (st : List Stmt) (m : MS) : Prop := PSs X st (tS X m)
theorem satS.mono {X : Cx} {G G1 : Gh} {H H1 : Hp} {o : Out Fl} {D : Ends} (h : satS X G H o D) (le : Stp G H G1 H1) : satS X G1 H1 o D := by
  match o, h with
  | .ok (.nx _) _, h => exact fun G' H' b l => h G' H' b (le.trans l)
  | .ok (.rt _) _, h => exact fun G' H' b l => h G' H' b (le.trans l)
  | .ok (.bk _) _, h => exact fun G' H' b l => h G' H' b (le.trans l)
  | .ok (.ct _) _, h => exact fun G' H' b l => h G' H' b (le.trans l)
  | .ex _ _ _, h => exact Takes.imp h fun _ _ _ _ z => z.anti le
  | .no, h => exact h
theorem satS.bind {α β : Type} {X : Cx} {R : Gh → α → β → Prop} {G : Gh} {H : Hp} {o : Out α} {k : α → Sto → Out Fl} {D : Ends} (h : satS X G H (o.bind k) D) : sat X R G H o (Aft X R G H fun a S1 G1 H1 => satS X G1 H1 (k a S1) D) := by
  cases o with
  | ok a S => exact fun G' H' b l s r => ⟨a, S, G', l, s, r, h.mono l⟩
  | ex c fs S => exact h
  | no => exact h
section
variable {X : Cx} {e : Expr} {st : Stmt} {sts : List Stmt}
theorem qe_of {t : TE} {m : ME} (h : PE X e t) (i : ∀ ρ S G σ H Q, Sm X.K G S H → Re X.K G ρ σ → sat X (Rp X.K) G H (m ρ S) Q → t σ H Q) : QE X e m :=
  ⟨fun pins s σ H Q I ⟨ρ, S, G, sm, re, q⟩ => h.run pins s σ H Q I (i ρ S G σ H Q sm re q)⟩
theorem qt_of {t : TT} {m : MT} (h : PT X e t) (i : ∀ ρ S G σ H Q, Sm X.K G S H → Re X.K G ρ σ → sat X (fun _ a b => a = b) G H (m ρ S) Q → t σ H Q) : QT X e m :=
  ⟨fun pins s σ H Q I ⟨ρ, S, G, sm, re, q⟩ => h.run pins s σ H Q I (i ρ S G σ H Q sm re q)⟩
theorem qs_of {t : TS} {m : MS} (h : PS X st t) (i : ∀ ρ S G σ H D, Sm X.K G S H → Re X.K G ρ σ → satS X G H (m ρ S) D → t D σ H) : QS X st m :=
  ⟨fun pins s σ H Q I ⟨ρ, S, G, sm, re, q⟩ => h.run pins s σ H Q I (i ρ S G σ H Q sm re q)⟩
theorem qss_of {t : TS} {m : MS} (h : PSs X sts t) (i : ∀ ρ S G σ H D, Sm X.K G S H → Re X.K G ρ σ → satS X G H (m ρ S) D → t D σ H) : QSs X sts m :=
  ⟨fun pins s σ H Q I ⟨ρ, S, G, sm, re, q⟩ => h.run pins s σ H Q I (i ρ S G σ H Q sm re q)⟩
end
def v (i : Nat) : ME := fun ρ S => match ρ[i]? with
  | some (some d) => .ok d S
  | _ => .no
def k (d : D) : ME := fun _ S => .ok d S
section
variable {X : Cx} {pos : Pos}
theorem qv (i : Nat) {x : Str} (hN : X.N[i]? = some x := by rfl) (hv : Vis X.env.scope x := by first | exact .inl rfl | exact .inr (.inl rfl) | exact .inr (.inr rfl)) (hd : (x == ("__debug__" : Str)) = false := by decide) (hcd : (x == ("__classdict__" : Str)) = false := by decide) : QE X (.Name x pos) (v i) :=
  qe_of (pe_var hN hv hd hcd) fun ρ S G σ H Q sm re h => by
    have h' : sat X (Rp X.K) G H (match ρ[i]? with | some (some d) => .ok d S | _ => .no) Q := h
    match e : ρ[i]?, h' with
    | some (some d), h' =>
      obtain ⟨v, h1, h2⟩ := re.get e
      exact ⟨v, h1, h' G H v .refl sm h2⟩
    | some none, h' => exact h'.elim
    | none, h' => exact h'.elim
theorem qk_of {e : Expr} {d : D} {x : V} (h : PE X e (tC x)) (r : ∀ G, Rp X.K G d x) : QE X e (k d) :=
  qe_of h fun ρ S G σ H Q sm re h => h G H x .refl sm (r G)
theorem qk_int {i : Int} {j : Nat} : QE X (.Constant (.int i) j pos) (k (.int i)) := qk_of pe_int fun _ => .int i
theorem qk_bl {b : Bool} {j : Nat} : QE X (.Constant (.bool b) j pos) (k (.bl b)) := qk_of pe_bl fun _ => .bl b
theorem qk_non {j : Nat} : QE X (.Constant .none j pos) (k .non) := qk_of pe_non fun _ => .non
theorem qk_str {x : Str} {j : Nat} : QE X (.Constant (.str x) j pos) (k (.str x)) := qk_of pe_str fun _ => .str x
theorem qg_int {x : Str} {i : Int} (hm : ∃ t, X.mg x = some (.int i t)) (hg : Gl X x := by rfl) (hd : (x == ("__debug__" : Str)) = false := by decide) : QE X (.Name x pos) (k (.int i)) :=
  let ⟨t, ht⟩ := hm
  qk_of (pe_glob (v := .int i) hg ht ⟨t, rfl⟩ hd) fun _ => .int i
theorem qg_cls {c : String} (hm : X.mg (Str.ofString c) = some (.ref (He.ga X.K (Str.ofString c)))) (hg : Gl X (Str.ofString c) := by rfl) (hd : (Str.ofString c == ("__debug__" : Str)) = false := by decide) : QE X (.Name (Str.ofString c) pos) (k (.cls c)) :=
  qk_of (pe_glob (v := .ref _) hg hm rfl hd) fun _ => .cls c
theorem qg_ty {x : Str} {n : String} (hm : X.mg x = none) (hv : bootBuiltins x = some (.type n)) (hg : Gl X x := by rfl) (hn : x ≠ "__name__" := by decide) (hd : (x == ("__debug__" : Str)) = false := by decide) : QE X (.Name x pos) (k (.ty n)) :=
  qk_of (pe_bltn (v := .ty n) hg hm hv rfl hn hd) fun _ => .ty n
end
def aNil : MA := fun _ S => .ok [] S
def aCons (m : ME) (ms : MA) : MA := fun ρ S => (m ρ S).bind fun d S1 => (ms ρ S1).bind fun ds S2 => .ok (d :: ds) S2
section
variable {X : Cx} {e : Expr} {es : List Expr} {m : ME} {ms : MA} {pos : Pos}
theorem qa_nil : QA X [] aNil := ⟨fun pos pins s σ H Q I h => pa_nil.run pos pins s σ H Q I (by
  obtain ⟨ρ, S, G, sm, re, q⟩ := h
  exact q G H [] .refl sm .nil)⟩
theorem qa_cons (h : QE X e m) (hs : QA X es ms) (hst : starEach (e :: es) X.env = (false, eval e X.env) :: starEach es X.env := by rfl) : QA X (e :: es) (aCons m ms) :=
  ⟨fun pos pins s σ H Q I z => (pa_cons h hs hst).run pos pins s σ H Q I (by
    obtain ⟨ρ, S, G, sm, re, q⟩ := z
    refine ⟨ρ, S, G, sm, re, (sat.bind q).imp fun x H1 w => ?_⟩
    obtain ⟨d, S1, G1, le1, sm1, r1, q1⟩ := w
    refine ⟨ρ, S1, G1, sm1, re.mono le1.le, (sat.bind q1).imp fun xs H2 w => ?_⟩
    obtain ⟨ds, S2, G2, le2, sm2, r2, q2⟩ := w
    exact q2 G2 H2 _ .refl sm2 (.cons (r1.mono le2.le) r2))⟩
end
def sNil : MS := fun ρ S => .ok (.nx ρ) S
def sSeq (a b : MS) : MS := fun ρ S => (a ρ S).bind fun f S1 => match f with
  | .nx ρ' => b ρ' S1
  | f => .ok f S1
def sRet (m : ME) : MS := fun ρ S => (m ρ S).bind fun d S1 => .ok (.rt d) S1
def sRetN : MS := fun _ S => .ok (.rt .non) S
def sExp (m : ME) : MS := fun ρ S => (m ρ S).bind fun _ S1 => .ok (.nx ρ) S1
def sSet (i : Nat) (m : ME) : MS := fun ρ S => (m ρ S).bind fun d S1 => .ok (.nx (ρ.set i (some d))) S1
def sIf (t : MT) (a b : MS) : MS := fun ρ S => (t ρ S).bind fun c S1 => if c = true then a ρ S1 else b ρ S1
def sBrk : MS := fun ρ S => .ok (.bk ρ) S
def sCnt : MS := fun ρ S => .ok (.ct ρ) S
section
variable {X : Cx} {e : Expr} {st : Stmt} {sts sts' : List Stmt} {m : ME} {t : MT} {a b : MS} {pos : Pos}
theorem qs_nil : QSs X [] sNil := qss_of pss_nil fun ρ S G σ H D sm re h => h G H σ .refl sm re
theorem qs_cons (h : QS X st a) (h' : QSs X sts b) : QSs X (st :: sts) (sSeq a b) := qss_of (pss_cons h h') fun ρ S G σ H D sm re h => by
  refine ⟨ρ, S, G, sm, re, ?_⟩
  have h1 : satS X G H ((a ρ S).bind fun f S1 => match f with | .nx ρ' => b ρ' S1 | f => .ok f S1) D := h
  match a ρ S, h1 with
  | .ok (.nx ρ') S', h1 => exact fun G' H' σ' le sm' re' => ⟨ρ', S', G', sm', re', h1.mono le⟩
  | .ok (.rt _) _, h1 => exact h1
  | .ok (.bk _) _, h1 => exact h1
  | .ok (.ct _) _, h1 => exact h1
  | .ex _ _ _, h1 => exact h1
  | .no, h1 => exact h1
theorem qs_ret (h : QE X e m) : QS X (.Return (some e) pos) (sRet m) := qs_of (ps_ret h) fun ρ S G σ H D sm re z => by
  refine ⟨ρ, S, G, sm, re, (satS.bind z).imp fun x H1 w => ?_⟩
  obtain ⟨d, S1, G1, le1, sm1, r1, q1⟩ := w
  exact q1 G1 H1 x .refl sm1 r1
theorem qs_exp (h : QE X e m) (hs : swapsWith e none pos.line X.env = pure false := by rfl) : QS X (.Expr e pos) (sExp m) := qs_of (ps_expr h hs) fun ρ S G σ H D sm re z => by
  refine ⟨ρ, S, G, sm, re, (satS.bind z).imp fun x H1 w => ?_⟩
  obtain ⟨d, S1, G1, le1, sm1, r1, q1⟩ := w
  exact q1 G1 H1 σ .refl sm1 (re.mono le1.le)
theorem qs_set (i : Nat) {x : Str} {pos' : Pos} (h : QE X e m) (hN : X.N.Nodup) (hi : X.N[i]? = some x := by rfl) (hx : Loc X.env.scope x := by first | exact .inl rfl | exact .inr rfl) (hs : swapsWith e (some (.Name x pos')) pos.line X.env = pure false := by rfl) (hf : X.fn x = true ∨ X.env.scope.names.lookup x = some .local := by first | exact .inl rfl | exact .inr rfl) :
    QS X (.Assign [.Name x pos'] e pos) (sSet i m) := qs_of (ps_set (i := i) hN hi hx h hs hf) fun ρ S G σ H D sm re z => by
  refine ⟨ρ, S, G, sm, re, (satS.bind z).imp fun x H1 w => ?_⟩
  obtain ⟨d, S1, G1, le1, sm1, r1, q1⟩ := w
  exact q1 G1 H1 _ .refl sm1 ((re.mono le1.le).set i r1)
theorem qs_if {c : Expr} (hc : QT X c t) (ha : QSs X sts a) (hb : QSs X sts' b) : QS X (.If c sts sts' pos) (sIf t a b) := qs_of (ps_if hc ha hb) fun ρ S G σ H D sm re z => by
  refine ⟨ρ, S, G, sm, re, (satS.bind z).imp fun x H1 w => ?_⟩
  obtain ⟨d, S1, G1, le1, sm1, r1, q1⟩ := w
  subst r1
  cases d with
  | true => exact ⟨ρ, S1, G1, sm1, re.mono le1.le, q1⟩
  | false => exact ⟨ρ, S1, G1, sm1, re.mono le1.le, q1⟩
end
mutual
def D.und (n : Nat) : D → Bool
  | .tup xs => belows n xs
  | .lst xs => belows n xs
  | .src xs => belows n xs
  | .dic0 => true
  | .hob _ => true
  | .exc _ fs => belowf n fs
  | .ntp xs => belows n xs
  | .obj _ fs => belowf n fs
  | .loc m => decide (m < n)
  | .non => true
  | .bl _ => true
  | .int _ => true
  | .str _ => true
  | .cls _ => true
  | .fnc _ => true
  | .ty _ => true
def belows (n : Nat) : List D → Bool
  | [] => true
  | x :: xs => x.und n && belows n xs
def belowf (n : Nat) : List (String × D) → Bool
  | [] => true
  | (_, x) :: xs => x.und n && belowf n xs
end
def belowk (n : Nat) : List (Str × D) → Bool
  | [] => true
  | (_, x) :: xs => x.und n && belowk n xs
def Cell.und (n : Nat) : Cell → Bool
  | .dic es => belowk n es
  | .lst xs => belows n xs
  | .ins _ fs => belowf n fs
  | .dead => true
def Gh.cut (G : Gh) (n : Nat) : Gh := ⟨G.F, fun k => if k < n then G.f k else none⟩
theorem Gh.cut_some {G : Gh} {n k : Nat} {a : Addr} (h : (G.cut n).f k = some a) : k < n ∧ G.f k = some a := by
  have h' : (if k < n then G.f k else none) = some a := h
  by_cases q : k < n
  · rw [if_pos q] at h'
    exact ⟨q, h'⟩
  · rw [if_neg q] at h'
    cases h'
theorem Gh.cut_of {G : Gh} {n k : Nat} {a : Addr} (q : k < n) (h : G.f k = some a) : (G.cut n).f k = some a := by
  show (if k < n then G.f k else none) = some a
  rw [if_pos q]
  exact h
section
variable {K : PySem.W.Frag} {G G' : Gh} {n : Nat}
theorem Rp.cut {d : D} {v : V} (h : Rp K G d v) : d.und n = true → Rp K (G.cut n) d v :=
  Rp.rec (K := K) (G := G) (motive_1 := fun d v _ => d.und n = true → Rp K (G.cut n) d v) (motive_2 := fun xs vs _ => belows n xs = true → Rps K (G.cut n) xs vs) (motive_3 := fun fs ws _ => belowf n fs = true → Rpf K (G.cut n) fs ws)
    (fun _ => .non) (fun b _ => .bl b) (fun i _ => .int i) (fun x _ => .str x) (fun h _ r z => .tup h (r (by simpa [D.und] using z))) (fun h _ r z => .lst h (r (by simpa [D.und] using z))) (fun h _ r z => .obj h (r (by simpa [D.und] using z)))
    (fun h z => .loc (Gh.cut_of (by simpa [D.und] using z) h)) (fun c _ => .cls c) (fun c _ => .fnc c) (fun c _ => .ty c) (fun h _ r z => .src h (r (by simpa [D.und] using z))) (fun h _ => .dic0 h) (fun h _ => .hob h) (fun h _ => .exc0 h) (fun h hd _ r z => .exc h hd (r (by simpa [D.und] using z))) (fun h hd _ r z => .ntp h hd (r (by simpa [D.und] using z)))
    (fun _ => .nil) (fun _ _ a b z => by rw [belows, Bool.and_eq_true] at z; exact .cons (a z.1) (b z.2)) (fun _ => .nil) (fun _ _ a b z => by rw [belowf, Bool.and_eq_true] at z; exact .cons (a z.1) (b z.2)) h
theorem Rps.cut {xs : List D} {vs : List V} (h : Rps K G xs vs) (z : belows n xs = true) : Rps K (G.cut n) xs vs := by
  induction xs generalizing vs with
  | nil => cases h; exact .nil
  | cons x xs ih =>
    cases h with
    | cons a b => rw [belows, Bool.and_eq_true] at z; exact .cons (a.cut z.1) (ih b z.2)
theorem Rpf.cut {xs : List (String × D)} {vs : List (Str × V)} (h : Rpf K G xs vs) (z : belowf n xs = true) : Rpf K (G.cut n) xs vs := by
  induction xs generalizing vs with
  | nil => cases h; exact .nil
  | cons x xs ih =>
    cases h with
    | cons a b => rw [belowf, Bool.and_eq_true] at z; exact .cons (a.cut z.1) (ih b z.2)
theorem Rp.bel (dom : ∀ k a, G.f k = some a → k < n) {d : D} {v : V} (h : Rp K G d v) : d.und n = true :=
  Rp.rec (K := K) (G := G) (motive_1 := fun d v _ => d.und n = true) (motive_2 := fun xs vs _ => belows n xs = true) (motive_3 := fun fs ws _ => belowf n fs = true)
    rfl (fun _ => rfl) (fun _ => rfl) (fun _ => rfl) (fun h _ r => by rw [D.und]; exact r) (fun h _ r => by rw [D.und]; exact r) (fun h _ r => by rw [D.und]; exact r)
    (fun h => by rw [D.und]; exact decide_eq_true (dom _ _ h)) (fun _ => rfl) (fun _ => rfl) (fun _ => rfl) (fun h _ r => by rw [D.und]; exact r) (fun _ => rfl) (fun _ => rfl) (fun _ => rfl) (fun h hd _ r => by rw [D.und]; exact r) (fun h hd _ r => by rw [D.und]; exact r)
    rfl (fun _ _ a b => by rw [belows, a, b]; rfl) rfl (fun _ _ a b => by rw [belowf, a, b]; rfl) h
theorem Rps.bel (dom : ∀ k a, G.f k = some a → k < n) {xs : List D} {vs : List V} (h : Rps K G xs vs) : belows n xs = true := by
  induction xs generalizing vs with
  | nil => rfl
  | cons x xs ih => cases h with | cons a b => rw [belows, a.bel dom, ih b]; rfl
theorem Rpf.bel (dom : ∀ k a, G.f k = some a → k < n) {xs : List (String × D)} {vs : List (Str × V)} (h : Rpf K G xs vs) : belowf n xs = true := by
  induction xs generalizing vs with
  | nil => rfl
  | cons x xs ih => cases h with | cons a b => rw [belowf, a.bel dom, ih b]; rfl
theorem Rpk.cut {es : List (Str × D)} {kvs : List (Key × V)} (h : Rpk K G es kvs) (z : belowk n es = true) : Rpk K (G.cut n) es kvs := by
  induction h with
  | nil => exact .nil
  | cons a _ ih => rw [belowk, Bool.and_eq_true] at z; exact .cons (a.cut z.1) (ih z.2)
theorem Rpk.bel (dom : ∀ k a, G.f k = some a → k < n) {es : List (Str × D)} {kvs : List (Key × V)} (h : Rpk K G es kvs) : belowk n es = true := by
  induction h with
  | nil => rfl
  | cons a _ ih => rw [belowk, a.bel dom, ih]; rfl
theorem CellOk.bel {H : Hp} {a : Addr} {c : Cell} (dom : ∀ k a, G.f k = some a → k < n) (h : CellOk K G H a c) : c.und n = true := by
  cases c with
  | lst xs => obtain ⟨vs, _, r⟩ := h; exact r.bel dom
  | ins c fs => obtain ⟨dx, ws, _, r⟩ := h; exact r.bel dom
  | dead => rfl
  | dic es => obtain ⟨kvs, _, r⟩ := h; exact r.bel dom
theorem CellOk.cut {H : Hp} {a : Addr} {c : Cell} (h : CellOk K G H a c) (z : c.und n = true) : CellOk K (G.cut n) H a c := by
  cases c with
  | lst xs => obtain ⟨vs, e, r⟩ := h; exact ⟨vs, e, r.cut z⟩
  | ins c fs => obtain ⟨dx, ws, e, r⟩ := h; exact ⟨dx, ws, e, r.cut z⟩
  | dead => trivial
  | dic es => obtain ⟨kvs, e, r⟩ := h; exact ⟨kvs, e, r.cut z⟩
end
def Kept (S S' : Sto) : Prop := ∀ i c, i < S.length → S'[i]? = some c → S[i]? = some c ∨ c.und S.length = true
open Classical in
noncomputable def gcO (S : Sto) (o : Out D) : Out D := match o with
  | .ok d S' => if d.und S.length = true ∧ Kept S S' then .ok d (S'.take S.length) else .ok d S'
  | .ex c fs S' => if belowf S.length fs = true ∧ Kept S S' then .ex c fs (S'.take S.length) else .ex c fs S'
  | .no => .no
theorem gc_len {S S' : Sto} {d : D} (h : S'.length = S.length) : gcO S (.ok d S') = .ok d S' := by
  classical
  show (if d.und S.length = true ∧ Kept S S' then Out.ok d ((S').take S.length) else .ok d (S')) = _
  split
  · rw [← h, List.take_length]
  · rfl
theorem gc_lenx {S S' : Sto} {c : String} {fs : List (String × D)} (h : S'.length = S.length) : gcO S (.ex c fs S') = .ex c fs S' := by
  classical
  show (if belowf S.length fs = true ∧ Kept S S' then Out.ex c fs ((S').take S.length) else .ex c fs (S')) = _
  split
  · rw [← h, List.take_length]
  · rfl
theorem gc_samex {S : Sto} {c : String} {fs : List (String × D)} : gcO S (.ex c fs S) = .ex c fs S := gc_lenx rfl
theorem Kept.app {S T : Sto} : Kept S (S ++ T) := fun i c h e => .inl (by rw [List.getElem?_append_left h] at e; exact e)
theorem gc_app {S T : Sto} {d : D} (h : d.und S.length = true) : gcO S (.ok d (S ++ T)) = .ok d S := by
  classical
  show (if d.und S.length = true ∧ Kept S (S ++ T) then Out.ok d ((S ++ T).take S.length) else .ok d (S ++ T)) = _
  rw [if_pos ⟨h, Kept.app⟩, List.take_left]
theorem gc_appx {S T : Sto} {c : String} {fs : List (String × D)} (h : belowf S.length fs = true) : gcO S (.ex c fs (S ++ T)) = .ex c fs S := by
  classical
  show (if belowf S.length fs = true ∧ Kept S (S ++ T) then Out.ex c fs ((S ++ T).take S.length) else .ex c fs (S ++ T)) = _
  rw [if_pos ⟨h, Kept.app⟩, List.take_left]
theorem Kept.setApp {S T : Sto} {k : Nat} {c : Cell} (hc : c.und S.length = true) : Kept S (S.set k c ++ T) := fun i c' h e => by
  rw [List.getElem?_append_left (by rw [List.length_set]; exact h)] at e
  by_cases q : k = i
  · subst q
    rw [List.getElem?_set_self h] at e
    cases e
    exact .inr hc
  · rw [List.getElem?_set_ne q] at e
    exact .inl e
theorem gc_setApp {S T : Sto} {d : D} {k : Nat} {c : Cell} (h : d.und S.length = true) (hc : c.und S.length = true) : gcO S (.ok d (S.set k c ++ T)) = .ok d (S.set k c) := by
  classical
  show (if d.und S.length = true ∧ Kept S (S.set k c ++ T) then Out.ok d ((S.set k c ++ T).take S.length) else .ok d (S.set k c ++ T)) = _
  rw [if_pos ⟨h, Kept.setApp hc⟩]
  have e : S.length = (S.set k c).length := (List.length_set ..).symm
  rw [e, List.take_left]
theorem Sm.cut {K : PySem.W.Frag} {G G' : Gh} {S S' : Sto} {H H' : Hp} (m : Sm K G S H) (m' : Sm K G' S' H') (hk : Kept S S') : Sm K (G'.cut S.length) (S'.take S.length) H' where
  fr := m'.fr
  cel := fun i c e nd => by
    have hi : i < S.length := by
      have := (List.getElem?_eq_some_iff.mp e).1
      rw [List.length_take] at this
      omega
    rw [List.getElem?_take_of_lt hi] at e
    obtain ⟨a, h1, h2, h3⟩ := m'.cel i c e nd
    refine ⟨a, Gh.cut_of hi h1, h2, h3.cut ?_⟩
    rcases hk i c hi e with q | q
    · obtain ⟨b, g1, g2, g3⟩ := m.cel i c q nd
      exact g3.bel m.dom
    · exact q
  dom := fun k a h => by
    obtain ⟨h1, h2⟩ := Gh.cut_some h
    have := m'.dom k a h2
    rw [List.length_take]
    omega
  inj := fun i j a h h' => m'.inj i j a (Gh.cut_some h).2 (Gh.cut_some h').2
  dn := fun i a h => m'.dn i a (Gh.cut_some h).2
  nt := m'.nt
  tb := m'.tb
theorem Sm.cut_le {K : PySem.W.Frag} {G G' : Gh} {S : Sto} {H H' : Hp} (m : Sm K G S H) (st : Stp G H G' H') : Stp G H (G'.cut S.length) H' := ⟨⟨st.le.1, fun k a h => Gh.cut_of (m.dom k a h) (st.le.2 k a h)⟩, st.dom, st.frm, fun n a h => st.new n a (Gh.cut_some h).2, st.fro⟩
def fin (o : Out Fl) : Out D := o.bind fun f S => match f with
  | .nx _ => .ok .non S
  | .rt d => .ok d S
  | _ => .no
noncomputable def dfn (np n : Nat) (b : MS) : Fn := fun ds S => if ds.length = np then gcO S (fin (b (ds.map some ++ List.replicate (n - np) none) S)) else .no
def spO (K : PySem.W.Frag) (G : Gh) (H : Hp) (o : Out D) (Q : VK) (E : XK) : Prop := match o with
  | .ok d S' => ∀ G' H' v, Stp G H G' H' → Sm K G' S' H' → Rp K G' d v → Q v H'
  | .ex c fs S' => ∀ cls dd H', wEx K G H c fs S' cls dd H' → E cls dd H'
  | .no => False
def spF (K : PySem.W.Frag) (F : Fn) : Sp := fun vs H Q E => ∃ ds S G, Sm K G S H ∧ Rps K G ds vs ∧ spO K G H (F ds S) Q E
abbrev FnF (P : Program) (w : World) (K : PySem.W.Frag) (mg : Str → Option Value) (base : Heap) (k : Nat) (f : Addr) (F : Fn) : Prop := FnR P w K mg base (L2.CX P w) k f (spF K F)
abbrev FnFG (P : Program) (w : World) (K : PySem.W.Frag) (mg : Str → Option Value) (base : Heap) (k : Nat) (f : Addr) (F : Fn) : Prop := FnRG P w K mg base (L2.CX P w) k f (spF K F)
theorem ExR.cut {K : PySem.W.Frag} {G : Gh} {n : Nat} {c : String} {fs : List (String × D)} {cls : Value} {dd : Option Addr} (h : ExR K G c fs cls dd) (z : belowf n fs = true) : ExR K (G.cut n) c fs cls dd := by
  obtain ⟨h1, h2 | ⟨d, ws, h3, h4, h5⟩⟩ := h
  · exact ⟨h1, .inl h2⟩
  · exact ⟨h1, .inr ⟨d, ws, h3, h4, h5.cut z⟩⟩
theorem spO_gc {K : PySem.W.Frag} {G : Gh} {S : Sto} {H : Hp} {o : Out D} {Q : VK} {E : XK} (sm : Sm K G S H) (h : spO K G H (gcO S o) Q E) : spO K G H o Q E := by
  classical
  match o, h with
  | .ok d S', h =>
    intro G' H' v le sm' r
    by_cases c : d.und S.length = true ∧ Kept S S'
    · have e : gcO S (.ok d S') = .ok d (S'.take S.length) := if_pos c
      rw [e] at h
      exact h _ H' v (sm.cut_le le) (sm.cut sm' c.2) (r.cut c.1)
    · have e : gcO S (.ok d S') = .ok d S' := if_neg c
      rw [e] at h
      exact h G' H' v le sm' r
  | .ex x fs S', h =>
    intro cls dd H' w
    obtain ⟨G', le, sm', r⟩ := w
    by_cases c : belowf S.length fs = true ∧ Kept S S'
    · have e : gcO S (.ex x fs S') = .ex x fs (S'.take S.length) := if_pos c
      rw [e] at h
      exact h cls dd H' ⟨_, sm.cut_le le, sm.cut sm' c.2, r.cut c.1⟩
    · have e : gcO S (.ex x fs S') = .ex x fs S' := if_neg c
      rw [e] at h
      exact h cls dd H' ⟨G', le, sm', r⟩
  | .no, h => exact h
theorem sat_body {X : Cx} {G : Gh} {H : Hp} {K : PySem.W.Frag} {o : Out Fl} {Q : VK} {E : XK} (hK : X.K = K) (tk : Takes X (fun cls d _ H => E cls d H)) (h : spO K G H (fin o) Q E) :
    satS X G H o { nx := fun _ H' => Q .non H', rt := Q } := by
  subst hK
  match o, h with
  | .ok (.nx _) _, h => exact fun G' H' _ l s _ => h G' H' _ l s .non
  | .ok (.rt _) _, h => exact h
  | .ok (.bk _) _, h => exact h.elim
  | .ok (.ct _) _, h => exact h.elim
  | .ex _ _ _, h => exact tk.imp fun cls dd _ H' z => h cls dd H' z
  | .no, h => exact h.elim
section
variable {P : Program} {w : World} {K : PySem.W.Frag} {mg : Str → Option Value} {base : Heap} {x qual : Str} {st : Stmt} {kws : List (Str × V)} {f : Addr} {fd : FuncData} {N ps : List Str} {j : Nat} {b : MS}
theorem spF_len {np n : Nat} (hn : ps.length = np) : ∀ vs H Q E, spF K (dfn np n b) vs H Q E → vs.length = ps.length := fun vs H Q E ⟨ds, S, G, _, r, h⟩ => by
  by_cases q : ds.length = np
  · rw [r.length, q, hn]
  · unfold dfn at h
    rw [if_neg q] at h
    exact h.elim
theorem body_start {np n : Nat} {vs : List V} {H : Hp} {Q : VK} {E : XK} {X : Cx} (hK : X.K = K) (tk : Takes X (fun cls d _ H => E cls d H)) (hn : ps.length = np) (hN : N.length = n)
    (h : spF K (dfn np n b) vs H Q E) : tS X b { nx := fun _ H' => Q .non H', rt := Q } (start N vs) H := by
  have hl := spF_len (K := K) hn vs H Q E h
  obtain ⟨ds, S, G, sm, r, h⟩ := h
  have q : ds.length = np := by rw [← r.length, hl, hn]
  unfold dfn at h
  rw [if_pos q] at h
  refine ⟨_, S, G, by rw [hK]; exact sm, ?_, sat_body hK tk (spO_gc sm h)⟩
  unfold L2.start
  have e : N.length - vs.length = n - np := by rw [hN, hl, hn]
  rw [e, hK]
  exact Re.start r _
theorem okF {np n : Nat} (F : FunD K x qual (defArgs st) (defBody st) (defScope st) [] kws f fd) (S : FnScope N ps (defScope st)) (hn : ps.length = np) (hN : N.length = n)
    (hb : ∀ (kV doc pm : Value) (an : Option Addr) (cdv ct : Value) (us : List Value), us.length = ps.length → bindArgs (PySem.W.fnOf x qual (defArgs st) (defBody st) (defScope st) .none kV doc pm an cdv ct) ⟨us, []⟩ = pure (ps.zip us))
    (hbody : ∀ (cdv : Value) (A : Around) (outer : List Env) (s : Shared) (H : Hp) (E : XK), Room j (A.deeper (envOfC qual (defScope st) s.heap.objs.size f cdv)) →
      QSs (cxOf (L2.CX P w) P w K mg base N qual (defScope st) f cdv A outer s H E) (defBody st) b) : FnF P w K mg base (j + 1) f (dfn np n b) := by
  have Fk : FnOk P w K mg base (L2.CX P w) (j + 1) f fd ps (spF K (dfn np n b)) := F.ok S (spF_len hn) fun cdv A outer s H vs Q E hr h =>
    ⟨_, hbody cdv A outer s H E hr, body_start rfl (takes_of rfl rfl rfl rfl) hn hN h⟩
  exact (Fk.raw (F.bindsN hb) .nil).imp fun vs H Q E h => by rw [List.append_nil]; exact h
theorem okFG {np n : Nat} (F : FunD K x qual (defArgs st) (defBody st) (defScope st) [] kws f fd) (S : FnScope N ps (defScope st)) (hn : ps.length = np) (hN : N.length = n)
    (hb : ∀ (kV doc pm : Value) (an : Option Addr) (cdv ct : Value) (us : List Value), us.length = ps.length → bindArgs (PySem.W.fnOf x qual (defArgs st) (defBody st) (defScope st) .none kV doc pm an cdv ct) ⟨us, []⟩ = pure (ps.zip us))
    (hbody : ∀ (cdv : Value) (A : Around) (outer : List Env) (s : Shared) (H : Hp) (E : XK), A.guards = some [] → Room j (A.deeper (envOfC qual (defScope st) s.heap.objs.size f cdv)) →
      QSs (cxOf (L2.CX P w) P w K mg base N qual (defScope st) f cdv A outer s H E) (defBody st) b) : FnFG P w K mg base (j + 1) f (dfn np n b) := by
  have Fk : FnG P w K mg base (L2.CX P w) (j + 1) f fd ps (spF K (dfn np n b)) := okG F S (spF_len hn) fun cdv A outer s H vs Q E hg hr h =>
    ⟨_, hbody cdv A outer s H E hg hr, body_start rfl (takes_of rfl rfl rfl rfl) hn hN h⟩
  intro A outer s H us vs Q E hg hr e0 r h
  have hl : us.length = ps.length := r.length ▸ Fk.len _ _ _ _ h
  have bb := F.bindsN hb s us (e0.mod.kin.keeps fun b o e => (e0.bs b o e).1) (by simpa using hl)
  exact Fk.run A outer s H ⟨us, []⟩ us vs Q E hg hr e0 (by simpa using bb) r h
end
end PV
set_option Elab.async false
set_option linter.all false
set_option maxRecDepth 100000
set_option maxHeartbeats 4000000
namespace PV
open PySem PySem.Spec PyProof.Rows L2 ZL
abbrev G1 := D → Sto → Out D
abbrev G2 := D → D → Sto → Out D
def OpF (X : Cx) (f : Value → Value → Sem Value) (g : G2) : Prop := OpR X f (fun v w H Q => ∃ x y S G, Sm X.K G S H ∧ Rp X.K G x v ∧ Rp X.K G y w ∧ sat X (Rp X.K) G H (g x y S) Q)
def UnF (X : Cx) (f : Value → Sem Value) (g : G1) : Prop := UnR X f (fun v H Q => ∃ x S G, Sm X.K G S H ∧ Rp X.K G x v ∧ sat X (Rp X.K) G H (g x S) Q)
def CallF (X : Cx) (f : Value) (g : Fn) : Prop := CallR X f (fun vs H Q => ∃ ds S G, Sm X.K G S H ∧ Rps X.K G ds vs ∧ sat X (Rp X.K) G H (g ds S) Q)
def bin (g : G2) (a b : ME) : ME := fun ρ S => (a ρ S).bind fun x S1 => (b ρ S1).bind fun y S2 => g x y S2
def una (g : G1) (a : ME) : ME := fun ρ S => (a ρ S).bind fun x S1 => g x S1
def cal (g : Fn) (a : MA) : ME := fun ρ S => (a ρ S).bind fun ds S1 => g ds S1
def chn (g g' : G2) (a b c : ME) : ME := fun ρ S => (a ρ S).bind fun x S1 => (b ρ S1).bind fun y S2 => (g x y S2).bind fun z S3 => match z with
  | .bl true => (c ρ S3).bind fun u S4 => g' y u S4
  | .bl false => .ok (.bl false) S3
  | _ => .no
def isB (o : Out D) : Out Bool := o.bind fun d S => match d with
  | .bl b => .ok b S
  | _ => .no
section
variable {X : Cx} {a b c : Expr} {ma mb mc : ME} {g g' : G2} {pos : Pos}
theorem op2 {f : Value → Value → Sem Value} (ho : OpF X f g) {ta tb : TE} {ρ : Ev} {S : Sto} {G : Gh} {σ : L2.St} {H : Hp} {Q : VK} (sm : Sm X.K G S H) (re : Re X.K G ρ σ) (h : sat X (Rp X.K) G H (bin g ma mb ρ S) Q) :
    tOp (fun v w H Q => ∃ x y S G, Sm X.K G S H ∧ Rp X.K G x v ∧ Rp X.K G y w ∧ sat X (Rp X.K) G H (g x y S) Q) (tE X ma) (tE X mb) σ H Q := by
  refine ⟨ρ, S, G, sm, re, (sat.bind h).imp fun v H1 w => ?_⟩
  obtain ⟨x, S1, G1, le1, sm1, r1, q1⟩ := w
  refine ⟨ρ, S1, G1, sm1, re.mono le1.le, (sat.bind q1).imp fun v' H2 w => ?_⟩
  obtain ⟨y, S2, G2, le2, sm2, r2, q2⟩ := w
  exact ⟨x, y, S2, G2, sm2, r1.mono le2.le, r2, q2⟩
theorem qe_bin {op : Operator} (ho : OpF X (binaryOp op) g) (ha : QE X a ma) (hb : QE X b mb) : QE X (.BinOp a op b pos) (bin g ma mb) :=
  qe_of (pe_op ho ha hb) fun ρ S G σ H Q sm re h => op2 (ta := tE X ma) (tb := tE X mb) ho sm re h
theorem qe_cmp {op : CmpOp} (ho : OpF X (compareOp op) g) (ha : QE X a ma) (hb : QE X b mb) (hm : behindInMarks op b = false := by first | exact nomark _ | with_unfolding_all rfl) : QE X (.Compare a [op] [b] pos) (bin g ma mb) :=
  qe_of (pe_cmpR ho ha hb hm) fun ρ S G σ H Q sm re h => op2 (ta := tE X ma) (tb := tE X mb) ho sm re h
theorem sat_isB {G : Gh} {o : Out D} {Q : Bool → Hp → Prop} (h : sat X (fun _ a b => a = b) G H (isB o) Q) : sat X (Rp X.K) G H o (fun v H => ∃ c, v = .bl c ∧ Q c H) := by
  match o, h with
  | .ok (.bl c) S, h => exact fun G' H' v le sm r => by cases r; exact ⟨c, rfl, h G' H' c le sm rfl⟩
  | .ok .non _, h => exact h.elim
  | .ok (.int _) _, h => exact h.elim
  | .ok (.str _) _, h => exact h.elim
  | .ok (.tup _) _, h => exact h.elim
  | .ok (.lst _) _, h => exact h.elim
  | .ok (.obj _ _) _, h => exact h.elim
  | .ok (.loc _) _, h => exact h.elim
  | .ok (.cls _) _, h => exact h.elim
  | .ok (.fnc _) _, h => exact h.elim
  | .ok (.ty _) _, h => exact h.elim
  | .ok (.src _) _, h => exact h.elim
  | .ok .dic0 _, h => exact h.elim
  | .ok (.hob _) _, h => exact h.elim
  | .ok (.exc _ _) _, h => exact h.elim
  | .ex _ _ _, h => exact h
  | .no, h => exact h.elim
def tst (m : ME) : MT := fun ρ S => isB (m ρ S)
theorem tst_bin {f : Value → Value → Sem Value} (ho : OpF X f g) {ρ : Ev} {S : Sto} {G : Gh} {σ : L2.St} {H : Hp} {Q : Bool → Hp → Prop} (sm : Sm X.K G S H) (re : Re X.K G ρ σ) (h : sat X (fun _ a b => a = b) G H (tst (bin g ma mb) ρ S) Q) :
    tTest (tOp (fun v w H Q => ∃ x y S G, Sm X.K G S H ∧ Rp X.K G x v ∧ Rp X.K G y w ∧ sat X (Rp X.K) G H (g x y S) Q) (tE X ma) (tE X mb)) σ H Q :=
  op2 (ta := tE X ma) (tb := tE X mb) ho sm re (sat_isB h)
theorem qt_cmp {op : CmpOp} (ho : OpF X (compareOp op) g) (ha : QE X a ma) (hb : QE X b mb) (hm : behindInMarks op b = false := by first | exact nomark _ | with_unfolding_all rfl) : QT X (.Compare a [op] [b] pos) (tst (bin g ma mb)) :=
  qt_of (pt_cmpR ho ha hb hm) fun ρ S G σ H Q sm re h => tst_bin ho sm re h
theorem chn_rd {f f' : Value → Value → Sem Value} (ho : OpF X f g) (ho' : OpF X f' g') {ρ : Ev} {S : Sto} {G : Gh} {σ : L2.St} {H : Hp} {Q : VK} (sm : Sm X.K G S H) (re : Re X.K G ρ σ) (h : sat X (Rp X.K) G H (chn g g' ma mb mc ρ S) Q) :
    tChain (fun v w H Q => ∃ x y S G, Sm X.K G S H ∧ Rp X.K G x v ∧ Rp X.K G y w ∧ sat X (Rp X.K) G H (g x y S) Q) (fun v w H Q => ∃ x y S G, Sm X.K G S H ∧ Rp X.K G x v ∧ Rp X.K G y w ∧ sat X (Rp X.K) G H (g' x y S) Q) (tE X ma) (tE X mb) (tE X mc) σ H Q := by
  refine ⟨ρ, S, G, sm, re, (sat.bind h).imp fun v H1 w => ?_⟩
  obtain ⟨x, S1, G1, le1, sm1, r1, q1⟩ := w
  refine ⟨ρ, S1, G1, sm1, re.mono le1.le, (sat.bind q1).imp fun v' H2 w => ?_⟩
  obtain ⟨y, S2, G2, le2, sm2, r2, q2⟩ := w
  refine ⟨x, y, S2, G2, sm2, r1.mono le2.le, r2, (sat.bind q2).imp fun v3 H3 w => ?_⟩
  obtain ⟨z, S3, G3, le3, sm3, r3, q3⟩ := w
  cases r3 with
  | bl k =>
    refine ⟨k, rfl, ?_⟩
    cases k with
    | true =>
      refine ⟨ρ, S3, G3, sm3, (re.mono le1.le).mono (le2.trans le3).le, (sat.bind q3).imp fun v4 H4 w => ?_⟩
      obtain ⟨u, S4, G4, le4, sm4, r4, q4⟩ := w
      exact ⟨y, u, S4, G4, sm4, (r2.mono le3.le).mono le4.le, r4, q4⟩
    | false => exact q3 G3 H3 _ .refl sm3 (.bl false)
  | _ => exact q3.elim
theorem qe_chn {op op' : CmpOp} (ho : OpF X (compareOp op) g) (ho' : OpF X (compareOp op') g') (ha : QE X a ma) (hb : QE X b mb) (hc : QE X c mc) (hm : lastMarks [op, op'] [b, c] = false := by with_unfolding_all rfl) : QE X (.Compare a [op, op'] [b, c] pos) (chn g g' ma mb mc) :=
  qe_of (pe_chain ho ho' ha hb hc hm) fun ρ S G σ H Q sm re h => chn_rd ho ho' sm re h
theorem qe_un {op : UnaryOp} {g : G1} (ho : UnF X (unaryOp op) g) (ha : QE X a ma) : QE X (.UnaryOp op a pos) (una g ma) :=
  qe_of (pe_un ho ha) fun ρ S G σ H Q sm re h => by
    refine ⟨ρ, S, G, sm, re, (sat.bind h).imp fun v H1 w => ?_⟩
    obtain ⟨x, S1, G1, le1, sm1, r1, q1⟩ := w
    exact ⟨x, S1, G1, sm1, r1, q1⟩
end
def truD (d : D) : Option Bool := match d with
  | .non => some false
  | .bl b => some b
  | .int i => some (i != 0)
  | .str x => if x.length ≤ sizeLine then some ((x.length : Int) != 0) else none
  | .tup xs => some (!xs.isEmpty)
  | .lst xs => some (!xs.isEmpty)
  | _ => none
def tru (m : ME) : MT := fun ρ S => (m ρ S).bind fun d S1 => match truD d with
  | some b => .ok b S1
  | none => .no
def tNo (t : MT) : MT := fun ρ S => (t ρ S).bind fun c S1 => .ok (!c) S1
def tAn (t u : MT) : MT := fun ρ S => (t ρ S).bind fun c S1 => if c = true then u ρ S1 else .ok false S1
def tOr (t u : MT) : MT := fun ρ S => (t ρ S).bind fun c S1 => if c = true then .ok true S1 else u ρ S1
def ifE (t : MT) (a b : ME) : ME := fun ρ S => (t ρ S).bind fun c S1 => if c = true then a ρ S1 else b ρ S1
def anE (a b : ME) : ME := fun ρ S => (a ρ S).bind fun d S1 => match d with
  | .bl true => b ρ S1
  | .bl false => .ok (.bl false) S1
  | _ => .no
def orE (a b : ME) : ME := fun ρ S => (a ρ S).bind fun d S1 => match d with
  | .bl true => .ok (.bl true) S1
  | .bl false => b ρ S1
  | _ => .no
def noE (a : ME) : ME := fun ρ S => (a ρ S).bind fun d S1 => match d with
  | .bl b => .ok (.bl (!b)) S1
  | _ => .no
theorem Rps.isEmpty {K : PySem.W.Frag} {G : Gh} {xs : List D} {vs : List V} (h : Rps K G xs vs) : vs.isEmpty = xs.isEmpty := by cases h <;> rfl
section
variable {X : Cx} {a b c : Expr} {rest : List Expr} {ma mb : ME} {t u : MT} {pos : Pos}
theorem truV {G : Gh} {S : Sto} {H : Hp} {d : D} {v : V} {k : Bool} (sm : Sm X.K G S H) (r : Rp X.K G d v) (e : truD d = some k) : TruV X.K v H k := by
  cases r with
  | non => exact (Option.some.inj e).symm
  | bl b => exact (Option.some.inj e).symm
  | int i => exact (Option.some.inj e).symm
  | str x =>
    have e' : (if x.length ≤ sizeLine then some ((x.length : Int) != 0) else none) = some k := e
    by_cases q : x.length ≤ sizeLine
    · rw [if_pos q] at e'
      exact ⟨q, (Option.some.inj e').symm⟩
    · rw [if_neg q] at e'
      cases e'
  | tup h r => exact .inr (.inl ⟨_, SqT.mono h sm.fr, by rw [r.isEmpty]; exact (Option.some.inj e).symm⟩)
  | lst h r => exact .inl ⟨_, SqL.of (sm.fr _ _ h), by rw [r.isEmpty]; exact (Option.some.inj e).symm⟩
  | _ => cases e
theorem qt_tru (ha : QE X a ma) (he : ∀ whole, isTrue a X.env whole = (do let v ← whole; standAt a.pos; holding [v] (truthy v)) := by intro _; rfl) : QT X a (tru ma) :=
  qt_of (pt_truth ha he) fun ρ S G σ H Q sm re h => by
    refine ⟨ρ, S, G, sm, re, (sat.bind h).imp fun v H1 w => ?_⟩
    obtain ⟨d, S1, G1, le1, sm1, r1, q1⟩ := w
    match e : truD d, q1 with
    | some k, q1 => exact ⟨k, truV sm1 r1 e, q1 G1 H1 k .refl sm1 rfl⟩
    | none, q1 => exact q1.elim
theorem qt_not (h : QT X a t) : QT X (.UnaryOp .Not a pos) (tNo t) := qt_of (pt_not h) fun ρ S G σ H Q sm re h => by
  refine ⟨ρ, S, G, sm, re, (sat.bind h).imp fun v H1 w => ?_⟩
  obtain ⟨d, S1, G1, le1, sm1, r1, q1⟩ := w
  subst r1
  exact q1 G1 H1 _ .refl sm1 rfl
abbrev QW (X : Cx) (e : Expr) (m : MT) : Prop := PW X e (tT X m)
theorem qw_of {t : TT} {m : MT} {e : Expr} (h : PW X e t) (i : ∀ ρ S G σ H Q, Sm X.K G S H → Re X.K G ρ σ → sat X (fun _ a b => a = b) G H (m ρ S) Q → t σ H Q) : QW X e m :=
  ⟨fun wh pins s σ H Q I ⟨ρ, S, G, sm, re, q⟩ => h.run wh pins s σ H Q I (i ρ S G σ H Q sm re q)⟩
theorem qw_and1 (h : QT X a t) : QW X (.BoolOp .And [a] pos) t := pw_and1 h
theorem qw_or1 (h : QT X a t) : QW X (.BoolOp .Or [a] pos) t := pw_or1 h
theorem qw_and (h : QT X a t) (h' : QW X (.BoolOp .And (b :: rest) pos) u) : QW X (.BoolOp .And (a :: b :: rest) pos) (tAn t u) := qw_of (pw_and h h') fun ρ S G σ H Q sm re h => by
  refine ⟨ρ, S, G, sm, re, (sat.bind h).imp fun v H1 w => ?_⟩
  obtain ⟨d, S1, G1, le1, sm1, r1, q1⟩ := w
  subst r1
  cases d with
  | true => exact ⟨ρ, S1, G1, sm1, re.mono le1.le, q1⟩
  | false => exact q1 G1 H1 _ .refl sm1 rfl
theorem qw_or (h : QT X a t) (h' : QW X (.BoolOp .Or (b :: rest) pos) u) : QW X (.BoolOp .Or (a :: b :: rest) pos) (tOr t u) := qw_of (pw_or h h') fun ρ S G σ H Q sm re h => by
  refine ⟨ρ, S, G, sm, re, (sat.bind h).imp fun v H1 w => ?_⟩
  obtain ⟨d, S1, G1, le1, sm1, r1, q1⟩ := w
  subst r1
  cases d with
  | false => exact ⟨ρ, S1, G1, sm1, re.mono le1.le, q1⟩
  | true => exact q1 G1 H1 _ .refl sm1 rfl
theorem qt_w {e : Expr} (h : QW X e t) : QT X e t := h.pt
theorem qe_if {c : Expr} (hc : QT X c t) (ha : QE X a ma) (hb : QE X b mb) : QE X (.IfExp c a b pos) (ifE t ma mb) := qe_of (pe_ifExp hc ha hb) fun ρ S G σ H Q sm re h => by
  refine ⟨ρ, S, G, sm, re, (sat.bind h).imp fun v H1 w => ?_⟩
  obtain ⟨d, S1, G1, le1, sm1, r1, q1⟩ := w
  subst r1
  cases d with
  | true => exact ⟨ρ, S1, G1, sm1, re.mono le1.le, q1⟩
  | false => exact ⟨ρ, S1, G1, sm1, re.mono le1.le, q1⟩
theorem qe_one {op : BoolOp} (h : QE X a ma) : QE X (.BoolOp op [a] pos) ma := pe_one h
theorem qe_and (ha : QE X a ma) (hb : QE X (.BoolOp .And (b :: rest) pos) mb) : QE X (.BoolOp .And (a :: b :: rest) pos) (anE ma mb) := qe_of (pe_and ha hb) fun ρ S G σ H Q sm re h => by
  refine ⟨ρ, S, G, sm, re, (sat.bind h).imp fun v H1 w => ?_⟩
  obtain ⟨d, S1, G1, le1, sm1, r1, q1⟩ := w
  cases r1 with
  | bl k =>
    refine ⟨k, rfl, ?_⟩
    cases k with
    | true => exact ⟨ρ, S1, G1, sm1, re.mono le1.le, q1⟩
    | false => exact q1 G1 H1 _ .refl sm1 (.bl _)
  | _ => exact q1.elim
theorem qe_not (ha : QE X a ma) : QE X (.UnaryOp .Not a pos) (noE ma) := qe_of (pe_not ha) fun ρ S G σ H Q sm re h => by
  refine ⟨ρ, S, G, sm, re, (sat.bind h).imp fun v H1 w => ?_⟩
  obtain ⟨d, S1, G1, le1, sm1, r1, q1⟩ := w
  cases r1 with
  | bl k => exact ⟨k, rfl, q1 G1 H1 _ .refl sm1 (.bl _)⟩
  | _ => exact q1.elim
end
end PV
set_option Elab.async false
set_option linter.all false
set_option maxRecDepth 100000
set_option maxHeartbeats 4000000
namespace PV
open PySem PySem.Spec PyProof.Rows L2 ZL
mutual
def toP : D → Option PyData
  | .non => some .none
  | .bl b => some (.bool b)
  | .int i => some (.int i)
  | .str x => some (.str x)
  | .tup xs => (toPs xs).map .tuple
  | .lst xs => (toPs xs).map .list
  | .src xs => (toPs xs).map .list
  | .dic0 => none
  | .hob _ => none
  | .exc _ _ => none
  | .ntp _ => none
  | .obj _ _ => none
  | .loc _ => none
  | .cls _ => none
  | .fnc _ => none
  | .ty _ => none
def toPs : List D → Option (List PyData)
  | [] => some []
  | x :: xs => match toP x, toPs xs with
    | some p, some ps => some (p :: ps)
    | _, _ => none
end
section
variable {K : PySem.W.Frag} {G : Gh} {H : Hp}
mutual
theorem Rp.dp (e : ∀ a o, G.F a = some o → H a = some o) : ∀ (d : D) (v : V) (p : PyData), Rp K G d v → toP d = some p → Dp K H v p
  | .non, _, _, r, h => by cases r; cases h; exact .non
  | .bl _, _, _, r, h => by cases r; cases h; exact .bl _
  | .int _, _, _, r, h => by cases r; cases h; exact .int _
  | .str _, _, _, r, h => by cases r; cases h; exact .str _
  | .tup xs, _, _, r, h => by
    cases r with
    | tup q r =>
      unfold toP at h
      match hp : toPs xs, h with
      | some ps, h => cases h; exact .tup (SqT.mono q e) (Rps.dp e xs _ ps r hp)
      | none, h => cases h
  | .lst xs, _, _, r, h => by
    cases r with
    | lst q r =>
      unfold toP at h
      match hp : toPs xs, h with
      | some ps, h => cases h; exact .lst (SqL.of (e _ _ q)) (Rps.dp e xs _ ps r hp)
      | none, h => cases h
  | .src xs, _, _, r, h => by
    cases r with
    | src q r =>
      unfold toP at h
      match hp : toPs xs, h with
      | some ps, h => cases h; exact .lst (SqL.mono q e) (Rps.dp e xs _ ps r hp)
      | none, h => cases h
  | .obj _ _, _, _, _, h => by simp [toP] at h
  | .dic0, _, _, _, h => by simp [toP] at h
  | .hob _, _, _, _, h => by simp [toP] at h
  | .exc _ _, _, _, _, h => by simp [toP] at h
  | .ntp _, _, _, _, h => by simp [toP] at h
  | .loc _, _, _, _, h => by simp [toP] at h
  | .cls _, _, _, _, h => by simp [toP] at h
  | .fnc _, _, _, _, h => by simp [toP] at h
  | .ty _, _, _, _, h => by simp [toP] at h
theorem Rps.dp (e : ∀ a o, G.F a = some o → H a = some o) : ∀ (xs : List D) (vs : List V) (ps : List PyData), Rps K G xs vs → toPs xs = some ps → DpAll K H vs ps
  | [], _, _, r, h => by cases r; cases h; exact .nil
  | x :: xs, _, _, r, h => by
    cases r with
    | cons r1 r2 =>
      unfold toPs at h
      match h1 : toP x, h2 : toPs xs, h with
      | some p, some ps, h => cases h; exact .cons (Rp.dp e x _ p r1 h1) (Rps.dp e xs _ ps r2 h2)
      | none, some _, h => cases h
      | none, none, h => cases h
      | some _, none, h => cases h
end
end
def eqP (x y : D) : Option Bool := match toP x, toP y with
  | some p, some q => if SeqAt.shaped p = true ∧ SeqAt.shaped q = true then some (PyData.eqv p q) else none
  | _, _ => none
def eqD (x y : D) : Option Bool := match x, y with
  | .str a, .str b => some (decide (a = b))
  | x, y => eqP x y
def eqG (neg : Bool) : G2 := fun x y S => match eqD x y with
  | some b => .ok (.bl (neg ^^ b)) S
  | none => .no
theorem eqP_some {x y : D} {b : Bool} (h : eqP x y = some b) : ∃ p q, toP x = some p ∧ toP y = some q ∧ SeqAt.shaped p = true ∧ SeqAt.shaped q = true ∧ b = PyData.eqv p q := by
  unfold eqP at h
  match h1 : toP x, h2 : toP y, h with
  | some p, some q, h =>
    simp only at h
    by_cases c : SeqAt.shaped p = true ∧ SeqAt.shaped q = true
    · rw [if_pos c] at h
      exact ⟨p, q, rfl, rfl, c.1, c.2, (Option.some.inj h).symm⟩
    · rw [if_neg c] at h
      cases h
  | none, _, h => cases h
  | some _, none, h => cases h
section
variable {X : Cx}
theorem dec_strV {a b : Str} : decide (V.str a = V.str b) = decide (a = b) := by
  rw [Bool.eq_iff_iff]
  simp
theorem of_eq (hu : X.A.units + 64 < cLine) : OpF X (compareOp .Eq) (eqG false) := fun pins s σ H v w u u' Q I rv rw' ⟨x, y, S, G, sm, rx, ry, h⟩ => by
  unfold eqG at h
  match e : eqD x y, h with
  | some b, h =>
    unfold eqD at e
    split at e
    · cases rx
      cases ry
      cases e
      exact op_eq pins s σ H _ _ u u' Q I rv rw' ⟨rfl, h G H _ .refl sm (by rw [dec_strV, Bool.false_xor]; exact .bl _)⟩
    · obtain ⟨p, q, h1, h2, h3, h4, rfl⟩ := eqP_some e
      exact op_eqD hu pins s σ H v w u u' Q I rv rw' ⟨p, q, Rp.dp sm.fr x v p rx h1, Rp.dp sm.fr y w q ry h2, h3, h4, h G H _ .refl sm (by rw [Bool.false_xor]; exact .bl _)⟩
  | none, h => exact h.elim
theorem of_ne (hu : X.A.units + 64 < cLine) : OpF X (compareOp .NotEq) (eqG true) := fun pins s σ H v w u u' Q I rv rw' ⟨x, y, S, G, sm, rx, ry, h⟩ => by
  unfold eqG at h
  match e : eqD x y, h with
  | some b, h =>
    unfold eqD at e
    split at e
    · cases rx
      cases ry
      cases e
      exact op_ne pins s σ H _ _ u u' Q I rv rw' ⟨rfl, h G H _ .refl sm (by rw [dec_strV, Bool.true_xor]; exact .bl _)⟩
    · obtain ⟨p, q, h1, h2, h3, h4, rfl⟩ := eqP_some e
      exact op_neD hu pins s σ H v w u u' Q I rv rw' ⟨p, q, Rp.dp sm.fr x v p rx h1, Rp.dp sm.fr y w q ry h2, h3, h4, h G H _ .refl sm (by rw [Bool.true_xor]; exact .bl _)⟩
  | none, h => exact h.elim
end
def strLt (a b : Str) : Bool := decide (a.cps.toList < b.cps.toList)
def ltG : G2 := fun x y S => match x, y with
  | .int i, .int j => .ok (.bl (decide (i < j))) S
  | .str a, .str b => .ok (.bl (strLt a b)) S
  | _, _ => .no
def leG : G2 := fun x y S => match x, y with
  | .int i, .int j => .ok (.bl (decide (i ≤ j))) S
  | .str a, .str b => .ok (.bl (!strLt b a)) S
  | _, _ => .no
def gtG : G2 := fun x y S => match x, y with
  | .int i, .int j => .ok (.bl (decide (j < i))) S
  | .str a, .str b => .ok (.bl (strLt b a)) S
  | _, _ => .no
def geG : G2 := fun x y S => match x, y with
  | .int i, .int j => .ok (.bl (decide (j ≤ i))) S
  | .str a, .str b => .ok (.bl (!strLt a b)) S
  | _, _ => .no
section
variable {X : Cx}
theorem of_lt : OpF X (compareOp .Lt) ltG := fun pins s σ H v w u u' Q I rv rw' ⟨x, y, S, G, sm, rx, ry, h⟩ => by
  unfold ltG at h
  split at h
  · cases rx; cases ry; exact op_lt pins s σ H _ _ u u' Q I rv rw' ⟨_, _, rfl, rfl, h G H _ .refl sm (.bl _)⟩
  · cases rx; cases ry; exact op_lt_str pins s σ H _ _ u u' Q I rv rw' ⟨_, _, rfl, rfl, h G H _ .refl sm (.bl _)⟩
  · exact h.elim
theorem of_le : OpF X (compareOp .LtE) leG := fun pins s σ H v w u u' Q I rv rw' ⟨x, y, S, G, sm, rx, ry, h⟩ => by
  unfold leG at h
  split at h
  · cases rx; cases ry; exact op_le pins s σ H _ _ u u' Q I rv rw' ⟨_, _, rfl, rfl, h G H _ .refl sm (.bl _)⟩
  · cases rx; cases ry; exact op_le_str pins s σ H _ _ u u' Q I rv rw' ⟨_, _, rfl, rfl, h G H _ .refl sm (.bl _)⟩
  · exact h.elim
theorem of_gt : OpF X (compareOp .Gt) gtG := fun pins s σ H v w u u' Q I rv rw' ⟨x, y, S, G, sm, rx, ry, h⟩ => by
  unfold gtG at h
  split at h
  · cases rx; cases ry; exact op_gt pins s σ H _ _ u u' Q I rv rw' ⟨_, _, rfl, rfl, h G H _ .refl sm (.bl _)⟩
  · cases rx; cases ry; exact op_gt_str pins s σ H _ _ u u' Q I rv rw' ⟨_, _, rfl, rfl, h G H _ .refl sm (.bl _)⟩
  · exact h.elim
theorem of_ge : OpF X (compareOp .GtE) geG := fun pins s σ H v w u u' Q I rv rw' ⟨x, y, S, G, sm, rx, ry, h⟩ => by
  unfold geG at h
  split at h
  · cases rx; cases ry; exact op_ge pins s σ H _ _ u u' Q I rv rw' ⟨_, _, rfl, rfl, h G H _ .refl sm (.bl _)⟩
  · cases rx; cases ry; exact op_ge_str pins s σ H _ _ u u' Q I rv rw' ⟨_, _, rfl, rfl, h G H _ .refl sm (.bl _)⟩
  · exact h.elim
end
def isNon : D → Bool
  | .non => true
  | _ => false
def isG (neg : Bool) : G2 := fun x y S => match y with
  | .non => .ok (.bl (neg ^^ isNon x)) S
  | _ => .no
section
variable {X : Cx}
end
def strIn (a b : Str) : Bool := !(Builtin.Str.occurrences b a 0 b.length 1).isEmpty
def inD (x y : D) : Option Bool := match y with
  | .str b => match x with
    | .str a => some (strIn a b)
    | _ => none
  | .tup ys => match toP x, toPs ys with
    | some p, some qs => if flat p = true ∧ qs.all flat = true then some (qs.any fun q => PyData.eqv q p) else none
    | _, _ => none
  | .lst ys => match toP x, toPs ys with
    | some p, some qs => if SeqAt.shaped p = true ∧ SeqAt.shaped (.list qs) = true then some (qs.any fun q => PyData.eqv q p) else none
    | _, _ => none
  | _ => none
where flat : PyData → Bool
  | .none => true
  | .bool _ => true
  | .int _ => true
  | .str _ => true
  | _ => false
def inG (neg : Bool) : G2 := fun x y S => match inD x y with
  | some b => .ok (.bl (neg ^^ b)) S
  | none => .no
section
variable {K : PySem.W.Frag} {G : Gh} {H : Hp}
theorem dp_flat {v : V} {p : PyData} (h : Dp K H v p) (f : inD.flat p = true) : flatV v = true := by cases h <;> first | rfl | cases f
theorem dp_eqV {v w : V} {p q : PyData} (h : Dp K H v p) (h' : Dp K H w q) (f : inD.flat p = true) (f' : inD.flat q = true) : eqV v w = PyData.eqv p q := by
  cases h <;> cases h' <;> first | rfl | (cases f; done) | (cases f'; done) | simp [eqV, PyData.eqv]
theorem dpAll_flat : ∀ {vs : List V} {ps : List PyData}, DpAll K H vs ps → ps.all inD.flat = true → vs.all flatV = true
  | _, _, .nil, _ => rfl
  | _, _, .cons a b, f => by
    rw [List.all_cons, Bool.and_eq_true] at f
    rw [List.all_cons, Bool.and_eq_true]
    exact ⟨dp_flat a f.1, dpAll_flat b f.2⟩
theorem dpAll_any {v : V} {p : PyData} (h : Dp K H v p) (fp : inD.flat p = true) : ∀ {vs : List V} {ps : List PyData}, DpAll K H vs ps → ps.all inD.flat = true → inV v vs = ps.any fun q => PyData.eqv q p
  | _, _, .nil, _ => rfl
  | _, _, .cons a b, f => by
    rw [List.all_cons, Bool.and_eq_true] at f
    unfold inV
    rw [List.any_cons, List.any_cons, dp_eqV a h f.1 fp]
    exact congrArg _ (dpAll_any h fp b f.2)
end
theorem in_cases {X : Cx} {x y : D} {b : Bool} {G : Gh} {S : Sto} {H : Hp} {v w : V} (e : inD x y = some b) (sm : Sm X.K G S H) (rx : Rp X.K G x v) (ry : Rp X.K G y w) :
    (∃ i j, v = .str i ∧ w = .str j ∧ b = !(Builtin.Str.occurrences j i 0 j.length 1).isEmpty) ∨
    (∃ p xs, w = .ref p ∧ (SqL X.K H p xs ∨ SqT X.K H p xs) ∧ flatV v = true ∧ xs.all flatV = true ∧ b = inV v xs) ∨
    ∃ d ds, Dp X.K H v d ∧ Dp X.K H w (.list ds) ∧ SeqAt.shaped d = true ∧ SeqAt.shaped (.list ds) = true ∧ b = ds.any fun z => PyData.eqv z d := by
  unfold inD at e
  split at e
  · split at e
    · cases rx; cases ry
      exact .inl ⟨_, _, rfl, rfl, (Option.some.inj e).symm⟩
    · cases e
  · rename_i ys
    match h1 : toP x, h2 : toPs ys, e with
    | some p, some qs, e =>
      simp only at e
      by_cases c : inD.flat p = true ∧ qs.all inD.flat = true
      · rw [if_pos c] at e
        cases ry with
        | tup h r =>
          have dx := Rp.dp sm.fr x v p rx h1
          have dy := Rps.dp sm.fr ys _ qs r h2
          exact .inr (.inl ⟨_, _, rfl, .inr (SqT.mono h sm.fr), dp_flat dx c.1, dpAll_flat dy c.2, by rw [dpAll_any dx c.1 dy c.2]; exact (Option.some.inj e).symm⟩)
      · rw [if_neg c] at e
        cases e
    | none, _, e => cases e
    | some _, none, e => cases e
  · rename_i ys
    match h1 : toP x, h2 : toPs ys, e with
    | some p, some qs, e =>
      simp only at e
      by_cases c : SeqAt.shaped p = true ∧ SeqAt.shaped (.list qs) = true
      · rw [if_pos c] at e
        cases ry with
        | lst h r =>
          exact .inr (.inr ⟨p, qs, Rp.dp sm.fr x v p rx h1, .lst (SqL.of (sm.fr _ _ h)) (Rps.dp sm.fr ys _ qs r h2), c.1, c.2, (Option.some.inj e).symm⟩)
      · rw [if_neg c] at e
        cases e
    | none, _, e => cases e
    | some _, none, e => cases e
  · cases e
section
variable {X : Cx}
theorem of_in (hu : X.A.units + 65 < cLine) : OpF X (compareOp .In) (inG false) := fun pins s σ H v w u u' Q I rv rw' ⟨x, y, S, G, sm, rx, ry, h⟩ => by
  unfold inG at h
  match e : inD x y, h with
  | some b, h =>
    have q : Q (.bl b) H := h G H _ .refl sm (by rw [Bool.false_xor]; exact .bl _)
    rcases in_cases e sm rx ry with ⟨i, j, rfl, rfl, rfl⟩ | ⟨p, xs, rfl, h1, h2, h3, rfl⟩ | ⟨d, ds, h1, h2, h3, h4, rfl⟩
    · exact op_in_str pins s σ H _ _ u u' Q I rv rw' ⟨i, j, rfl, rfl, q⟩
    · exact op_in_seq pins s σ H _ _ u u' Q I rv rw' ⟨p, xs, rfl, h1, h2, h3, q⟩
    · exact op_inD hu pins s σ H _ _ u u' Q I rv rw' ⟨d, ds, h1, h2, h3, h4, q⟩
  | none, h => exact h.elim
end
def fits (a b : Nat) : Bool := decide (a + b ≤ sizeLine)
def addG : G2 := fun x y S => match x, y with
  | .int i, .int j => .ok (.int (i + j)) S
  | .str a, .str b => if fits a.length b.length = true then .ok (.str (a ++ b)) S else .no
  | .lst a, .lst b => if fits a.length b.length = true then .ok (.lst (a ++ b)) S else .no
  | .tup a, .tup b => if fits a.length b.length = true then .ok (.tup (a ++ b)) S else .no
  | _, _ => .no
def subG : G2 := fun x y S => match x, y with
  | .int i, .int j => .ok (.int (i - j)) S
  | _, _ => .no
def mulOk (i j : Int) : Bool := decide (-(2 ^ 64) < i ∧ i < 2 ^ 64) || decide (-(2 ^ 64) < j ∧ j < 2 ^ 64) || decide (i.natAbs.log2 + j.natAbs.log2 < 1000000)
def repOk (n : Nat) (k : Int) : Bool := decide (-(2 ^ 63) ≤ k) && decide (k < 2 ^ 63) && decide (n * k.toNat ≤ sizeLine)
def mulG : G2 := fun x y S => match x, y with
  | .int i, .int j => if mulOk i j = true then .ok (.int (i * j)) S else .no
  | .lst a, .int k => if repOk a.length k = true then .ok (.lst (List.replicate k.toNat a).flatten) S else .no
  | _, _ => .no
def divOk (j : Int) : Bool := decide (0 < j) && decide (j.natAbs.log2 < 9000)
def fdivG : G2 := fun x y S => match x, y with
  | .int i, .int j => if divOk j = true then .ok (.int (i / j)) S else .no
  | _, _ => .no
def modG : G2 := fun x y S => match x, y with
  | .int i, .int j => if 0 < j then .ok (.int (i % j)) S else .no
  | _, _ => .no
def powOk (i j : Int) : Bool := decide (0 ≤ j) && decide (j ≤ 1000000) && decide (i.natAbs < 2 ^ 64)
def powG : G2 := fun x y S => match x, y with
  | .int i, .int j => if powOk i j = true then .ok (.int (i ^ j.toNat)) S else .no
  | _, _ => .no
theorem Rps.flat {K : PySem.W.Frag} {G : Gh} {xs : List D} {vs : List V} (r : Rps K G xs vs) : ∀ n : Nat, Rps K G (List.replicate n xs).flatten (List.replicate n vs).flatten
  | 0 => .nil
  | n + 1 => r.append (Rps.flat r n)
section
variable {X : Cx}
theorem new_lst {G : Gh} {S : Sto} {H : Hp} {p : Addr} {xs : List D} {vs : List V} {Q : VK} (sm : Sm X.K G S H) (hp : H p = none) (r : Rps X.K G xs vs) (h : sat X (Rp X.K) G H (.ok (.lst xs) S) Q) : Q (.ref p) (upd H p (.lst vs)) :=
  h _ _ _ (Stp.put sm hp) (sm.put hp) (.lst upd_same (r.mono (Gh.put_le (sm.free hp))))
theorem new_tup {G : Gh} {S : Sto} {H : Hp} {p : Addr} {xs : List D} {vs : List V} {Q : VK} (sm : Sm X.K G S H) (hp : H p = none) (r : Rps X.K G xs vs) (h : sat X (Rp X.K) G H (.ok (.tup xs) S) Q) : Q (.ref p) (upd H p (.tup vs)) :=
  h _ _ _ (Stp.put sm hp) (sm.put hp) (.tup (SqT.of upd_same) (r.mono (Gh.put_le (sm.free hp))))
theorem of_add : OpF X (binaryOp .Add) addG := fun pins s σ H v w u u' Q I rv rw' ⟨x, y, S, G, sm, rx, ry, h⟩ => by
  unfold addG at h
  split at h
  · cases rx; cases ry; exact op_add pins s σ H _ _ u u' Q I rv rw' ⟨_, _, rfl, rfl, h G H _ .refl sm (.int _)⟩
  · split at h
    · rename_i c
      cases rx; cases ry; exact op_add_str pins s σ H _ _ u u' Q I rv rw' ⟨_, _, rfl, rfl, of_decide_eq_true c, h G H _ .refl sm (.str _)⟩
    · exact h.elim
  · split at h
    · rename_i c
      cases rx with
      | lst h1 r1 =>
        cases ry with
        | lst h2 r2 =>
          refine op_cat pins s σ H _ _ u u' Q I rv rw' ⟨_, _, _, _, rfl, rfl, sm.fr _ _ h1, sm.fr _ _ h2, ?_, fun p hp => ?_⟩
          · rw [r1.length, r2.length]
            exact of_decide_eq_true c
          · exact new_lst sm hp (r1.append r2) h
    · exact h.elim
  · split at h
    · rename_i c
      cases rx with
      | tup h1 r1 =>
        cases ry with
        | tup h2 r2 =>
          refine op_catA pins s σ H _ _ u u' Q I rv rw' ⟨_, _, _, _, rfl, rfl, SqT.mono h1 sm.fr, SqT.mono h2 sm.fr, ?_, fun e => ?_, fun _ e => ?_, fun _ _ p hp => ?_⟩
          · rw [r1.length, r2.length]
            exact of_decide_eq_true c
          · subst e
            cases r1
            exact h G H _ .refl sm (.tup h2 r2)
          · subst e
            cases r2
            rw [List.append_nil] at h
            exact h G H _ .refl sm (.tup h1 r1)
          · exact new_tup sm hp (r1.append r2) h
    · exact h.elim
  · exact h.elim
theorem of_sub : OpF X (binaryOp .Sub) subG := fun pins s σ H v w u u' Q I rv rw' ⟨x, y, S, G, sm, rx, ry, h⟩ => by
  unfold subG at h
  split at h
  · cases rx; cases ry; exact op_sub pins s σ H _ _ u u' Q I rv rw' ⟨_, _, rfl, rfl, h G H _ .refl sm (.int _)⟩
  · exact h.elim
theorem of_mul : OpF X (binaryOp .Mult) mulG := fun pins s σ H v w u u' Q I rv rw' ⟨x, y, S, G, sm, rx, ry, h⟩ => by
  unfold mulG at h
  split at h
  · split at h
    · rename_i c
      cases rx; cases ry
      unfold mulOk at c
      rw [Bool.or_eq_true, Bool.or_eq_true] at c
      rcases c with (c | c) | c
      · exact op_mul pins s σ H _ _ u u' Q I rv rw' ⟨_, _, rfl, rfl, .inl (of_decide_eq_true c), h G H _ .refl sm (.int _)⟩
      · exact op_mul pins s σ H _ _ u u' Q I rv rw' ⟨_, _, rfl, rfl, .inr (of_decide_eq_true c), h G H _ .refl sm (.int _)⟩
      · exact op_mulW pins s σ H _ _ u u' Q I rv rw' ⟨_, _, rfl, rfl, (of_decide_eq_true c : _ < 1000000), h G H _ .refl sm (.int _)⟩
    · exact h.elim
  · split at h
    · rename_i c
      unfold repOk at c
      rw [Bool.and_eq_true, Bool.and_eq_true] at c
      cases rx with
      | lst h1 r1 =>
        cases ry
        refine op_rep pins s σ H _ _ u u' Q I rv rw' ⟨_, _, _, rfl, rfl, sm.fr _ _ h1, of_decide_eq_true c.1.1, of_decide_eq_true c.1.2, ?_, fun p hp => ?_⟩
        · rw [r1.length]
          exact of_decide_eq_true c.2
        · exact new_lst sm hp (r1.flat _) h
    · exact h.elim
  · exact h.elim
theorem of_fdiv : OpF X (binaryOp .FloorDiv) fdivG := fun pins s σ H v w u u' Q I rv rw' ⟨x, y, S, G, sm, rx, ry, h⟩ => by
  unfold fdivG at h
  split at h
  · split at h
    · rename_i c
      unfold divOk at c
      rw [Bool.and_eq_true] at c
      cases rx; cases ry; exact op_fdivW pins s σ H _ _ u u' Q I rv rw' ⟨_, _, rfl, rfl, ⟨of_decide_eq_true c.1, of_decide_eq_true c.2⟩, h G H _ .refl sm (.int _)⟩
    · exact h.elim
  · exact h.elim
theorem of_mod : OpF X (binaryOp .Mod) modG := fun pins s σ H v w u u' Q I rv rw' ⟨x, y, S, G, sm, rx, ry, h⟩ => by
  unfold modG at h
  split at h
  · split at h
    · rename_i c
      cases rx; cases ry; exact op_mod pins s σ H _ _ u u' Q I rv rw' ⟨_, _, rfl, rfl, c, h G H _ .refl sm (.int _)⟩
    · exact h.elim
  · exact h.elim
theorem of_pow : OpF X (binaryOp .Pow) powG := fun pins s σ H v w u u' Q I rv rw' ⟨x, y, S, G, sm, rx, ry, h⟩ => by
  unfold powG at h
  split at h
  · split at h
    · rename_i c
      unfold powOk at c
      rw [Bool.and_eq_true, Bool.and_eq_true] at c
      cases rx; cases ry; exact op_pow pins s σ H _ _ u u' Q I rv rw' ⟨_, _, rfl, rfl, ⟨of_decide_eq_true c.1.1, of_decide_eq_true c.1.2, of_decide_eq_true c.2⟩, h G H _ .refl sm (.int _)⟩
    · exact h.elim
  · exact h.elim
def negG : G1 := fun x S => match x with
  | .int i => .ok (.int (-i)) S
  | _ => .no
theorem of_neg : UnF X (unaryOp .USub) negG := fun pins s σ H v u Q I rv ⟨x, S, G, sm, rx, h⟩ => by
  unfold negG at h
  split at h
  · cases rx; exact un_neg pins s σ H _ u Q I rv ⟨_, rfl, h G H _ .refl sm (.int _)⟩
  · exact h.elim
end
end PV
set_option Elab.async false
set_option linter.all false
set_option maxRecDepth 100000
set_option maxHeartbeats 4000000
namespace PV
open PySem PySem.Spec PyProof.Rows L2 ZL
theorem ofS_inj {a b : String} (h : Str.ofString a = Str.ofString b) : a = b := by
  rw [Str.ofString_eq_toList, Str.ofString_eq_toList] at h
  have h1 : (a.toList.map Char.toNat).toArray = (b.toList.map Char.toNat).toArray := congrArg Str.cps h
  have h2 : a.toList.map Char.toNat = b.toList.map Char.toNat := by simpa using congrArg Array.toList h1
  have inj : ∀ (x y : List Char), x.map Char.toNat = y.map Char.toNat → x = y := by
    intro x
    induction x with
    | nil => intro y e; cases y with | nil => rfl | cons _ _ => simp at e
    | cons c x ih =>
      intro y e
      cases y with
      | nil => simp at e
      | cons d y =>
        simp only [List.map_cons, List.cons.injEq] at e
        rw [Char.toNat_inj.mp e.1, ih y e.2]
  exact String.toList_inj.mp (inj _ _ h2)
section
variable {K : PySem.W.Frag} {G : Gh}
theorem Rpf.at {fs : List (String × D)} {ws : List (Str × V)} {n : String} {d : D} (h : Rpf K G fs ws) (e : fs.lookup n = some d) : ∃ v, ws.lookup (Str.ofString n) = some v ∧ Rp K G d v := h.get e fun _ _ z => ofS_inj z
theorem Rpf.gone {fs : List (String × D)} {ws : List (Str × V)} {n : String} (h : Rpf K G fs ws) (e : fs.lookup n = none) : ws.lookup (Str.ofString n) = none := by
  induction fs generalizing ws with
  | nil => cases h; rfl
  | cons x xs ih =>
    cases h with
    | @cons m d' v' _ ws' a b =>
      by_cases hm : n = m
      · subst hm
        simp at e
      · have h1 : (n == m) = false := by simpa using hm
        rw [List.lookup_cons, h1] at e
        have h2 : (Str.ofString n == Str.ofString m) = false := beq_eq_false_iff_ne.mpr fun z => hm (ofS_inj z)
        rw [List.lookup_cons, h2]
        exact ih b e
theorem Rpf.length {fs : List (String × D)} {ws : List (Str × V)} (h : Rpf K G fs ws) : ws.length = fs.length := by
  induction fs generalizing ws with
  | nil => cases h; rfl
  | cons x xs ih => cases h with | cons a b => simp [ih b]
def putD (f : String) (d : D) : List (String × D) → List (String × D)
  | [] => [(f, d)]
  | (g, x) :: r => if g = f then (g, d) :: r else (g, x) :: putD f d r
theorem Rpf.put {fs : List (String × D)} {ws : List (Str × V)} {n : String} {d : D} {v : V} (h : Rpf K G fs ws) (r : Rp K G d v) : Rpf K G (putD n d fs) (putF (Str.ofString n) v ws) := by
  induction fs generalizing ws with
  | nil => cases h; exact .cons r .nil
  | cons x xs ih =>
    cases h with
    | @cons m d' v' _ ws' a b =>
      by_cases hm : m = n
      · subst hm
        show Rpf K G (if m = m then (m, d) :: xs else _) (if Str.ofString m = Str.ofString m then (Str.ofString m, v) :: ws' else _)
        rw [if_pos rfl, if_pos rfl]
        exact .cons r b
      · show Rpf K G (if m = n then _ else (m, d') :: putD n d xs) (if Str.ofString m = Str.ofString n then _ else (Str.ofString m, v') :: putF (Str.ofString n) v ws')
        rw [if_neg hm, if_neg fun z => hm (ofS_inj z)]
        exact .cons a (ih b)
end
def Est (X : Cx) : XK := fun cls dd H' => ∃ G H c fs S', Takes X (fun cls dd _ H' => wEx X.K G H c fs S' cls dd H') ∧ wEx X.K G H c fs S' cls dd H'
theorem passE {X : Cx} : Passes (L2.CX X.prog X.w) X (Est X) := fun pins σ H s e s' I c => by
  obtain ⟨a, B, H', cls, d, rfl, fl, hok, ub, na, os, ag, G, H0, n, fs, S', tk, w⟩ := c
  exact passes_call tk (fun _ _ _ _ h => h) pins σ H s _ s' I ⟨a, B, H', cls, d, rfl, fl, hok, ub, na, os, ag, w⟩
theorem sat_sp {X : Cx} {G : Gh} {H : Hp} {o : Out D} {Q : VK} (h : sat X (Rp X.K) G H o Q) : spO X.K G H o Q (Est X) := by
  match o, h with
  | .ok _ _, h => exact h
  | .ex c fs S', h => exact fun cls dd H' w => ⟨G, H, c, fs, S', h, w⟩
  | .no, h => exact h
section
variable {X : Cx} {j : Nat} {f : Addr} {F : Fn} {x : Str} {e : Expr} {es : List Expr} {ms : MA} {p pos : Pos}
theorem cal_rd {ρ : Ev} {S : Sto} {G : Gh} {σ : L2.St} {H : Hp} {Q : VK} (sm : Sm X.K G S H) (re : Re X.K G ρ σ) (h : sat X (Rp X.K) G H (cal F ms ρ S) Q) : tA X ms σ H (fun vs H1 => spF X.K F vs H1 Q (Est X)) := by
  refine ⟨ρ, S, G, sm, re, (sat.bind h).imp fun vs H1 w => ?_⟩
  obtain ⟨ds, S1, G1, le1, sm1, r1, q1⟩ := w
  exact ⟨ds, S1, G1, sm1, r1, sat_sp q1⟩
theorem qe_callG (Ff : FnFG X.prog X.w X.K X.mg X.base j f F) (hgd : X.A.guards = some []) (hr : Room j X.A) (hm : X.mg x = some (.ref f)) (hk : PySem.W.keepIn X.K (.ref f) = true) (ha : QA X (e :: es) ms) (hg : Gl X x := by rfl) (hdb : (x == ("__debug__" : Str)) = false := by decide)
    (he : starEach (e :: es) X.env = (false, eval e X.env) :: starEach es X.env := by rfl) (hpl : (backTo pos (starEach es X.env)).any (·.1) = false := by rfl) : QE X (.Call (.Name x p) (e :: es) [] pos) (cal F ms) :=
  qe_of (pe_callRG Ff hgd hr hg hm hk passE ha hdb he hpl) fun ρ S G σ H Q sm re h => cal_rd sm re h
theorem qe_call (Ff : FnF X.prog X.w X.K X.mg X.base j f F) (hr : Room j X.A) (hm : X.mg x = some (.ref f)) (hk : PySem.W.keepIn X.K (.ref f) = true) (ha : QA X (e :: es) ms) (hg : Gl X x := by rfl) (hdb : (x == ("__debug__" : Str)) = false := by decide)
    (he : starEach (e :: es) X.env = (false, eval e X.env) :: starEach es X.env := by rfl) (hpl : (backTo pos (starEach es X.env)).any (·.1) = false := by rfl) : QE X (.Call (.Name x p) (e :: es) [] pos) (cal F ms) :=
  qe_of (pe_callR Ff hr hg hm hk passE ha hdb he hpl) fun ρ S G σ H Q sm re h => cal_rd sm re h
theorem calB_rd {g : Fn} {ρ : Ev} {S : Sto} {G : Gh} {σ : L2.St} {H : Hp} {Q : VK} (sm : Sm X.K G S H) (re : Re X.K G ρ σ) (h : sat X (Rp X.K) G H (cal g ms ρ S) Q) :
    tCB (fun vs H Q => ∃ ds S G, Sm X.K G S H ∧ Rps X.K G ds vs ∧ sat X (Rp X.K) G H (g ds S) Q) (tA X ms) σ H Q := by
  refine ⟨ρ, S, G, sm, re, (sat.bind h).imp fun vs H1 w => ?_⟩
  obtain ⟨ds, S1, G1, le1, sm1, r1, q1⟩ := w
  exact ⟨ds, S1, G1, sm1, r1, q1⟩
theorem qe_blt {g : Fn} {id : String} (hc : CallF X (.builtin id) g) (hm : X.mg x = none) (ha : QA X (e :: es) ms) (hv : bootBuiltins x = some (.builtin id) := by decide +kernel) (hg : Gl X x := by rfl) (hn : x ≠ "__name__" := by decide) (hdb : (x == ("__debug__" : Str)) = false := by decide)
    (he : starEach (e :: es) X.env = (false, eval e X.env) :: starEach es X.env := by rfl) (hpl : (backTo pos (starEach es X.env)).any (·.1) = false := by rfl) : QE X (.Call (.Name x p) (e :: es) [] pos) (cal g ms) :=
  qe_of (pe_callB hc hg hm hv ha hn hdb he hpl) fun ρ S G σ H Q sm re h => calB_rd sm re h
theorem qe_typ {g : Fn} {T : String} (hc : CallF X (.type T) g) (hm : X.mg x = none) (ha : QA X (e :: es) ms) (hv : bootBuiltins x = some (.type T) := by decide +kernel) (hg : Gl X x := by rfl) (hn : x ≠ "__name__" := by decide) (hdb : (x == ("__debug__" : Str)) = false := by decide)
    (he : starEach (e :: es) X.env = (false, eval e X.env) :: starEach es X.env := by rfl) (hpl : (backTo pos (starEach es X.env)).any (·.1) = false := by rfl) : QE X (.Call (.Name x p) (e :: es) [] pos) (cal g ms) :=
  qe_of (pe_callTy hc hg hm hv ha hn hdb he hpl) fun ρ S G σ H Q sm re h => calB_rd sm re h
end
def lenB : Fn := fun ds S => match ds with
  | [.lst xs] => .ok (.int xs.length) S
  | [.tup xs] => .ok (.int xs.length) S
  | [.src xs] => .ok (.int xs.length) S
  | [.str x] => if x.length ≤ sizeLine then .ok (.int x.length) S else .no
  | [.loc n] => match S[n]? with
    | some (.lst xs) => .ok (.int xs.length) S
    | _ => .no
  | _ => .no
def absB : Fn := fun ds S => match ds with
  | [.int i] => .ok (.int (if i < 0 then -i else i)) S
  | _ => .no
def intB : Fn := fun ds S => match ds with
  | [.int i] => .ok (.int i) S
  | [.bl b] => .ok (.int (if b = true then 1 else 0)) S
  | [.str a] => match PySem.intText? a with
    | some n => if a.length ≤ 640 then .ok (.int n) S else .no
    | none => .no
  | _ => .no
def strOf (i : Int) : Str := Str.ofString (toString i)
def listB : Fn := fun ds S => match ds with
  | [.lst xs] => .ok (.lst xs) S
  | [.tup xs] => .ok (.lst xs) S
  | [.src xs] => .ok (.lst xs) S
  | _ => .no
def listM : Fn := fun ds S => match ds with
  | [.lst xs] => .ok (.loc S.length) (S ++ [.lst xs])
  | [.tup xs] => .ok (.loc S.length) (S ++ [.lst xs])
  | _ => .no
def tupB : Fn := fun ds S => match ds with
  | [.lst xs] => .ok (.tup xs) S
  | [.tup xs] => .ok (.tup xs) S
  | [.loc n] => match S[n]? with
    | some (.lst xs) => .ok (.tup xs) S
    | _ => .no
  | _ => .no
section
variable {X : Cx}
theorem vals1 {K : PySem.W.Frag} {G : Gh} {d : D} {vs : List V} (r : Rps K G [d] vs) : ∃ v, vs = [v] ∧ Rp K G d v := by
  cases r with
  | cons a b => cases b; exact ⟨_, rfl, a⟩
theorem vals2' {K : PySem.W.Frag} {G : Gh} {d e : D} {vs : List V} (r : Rps K G [d, e] vs) : ∃ v w, vs = [v, w] ∧ Rp K G d v ∧ Rp K G e w := by
  cases r with
  | cons a b => obtain ⟨w, rfl, q⟩ := vals1 b; exact ⟨_, _, rfl, a, q⟩
theorem Sm.list {K : PySem.W.Frag} {G : Gh} {S : Sto} {H : Hp} (sm : Sm K G S H) {n : Nat} {xs : List D} {v : V} (e : S[n]? = some (.lst xs)) (r : Rp K G (.loc n) v) : ∃ a vs, v = .ref a ∧ G.f n = some a ∧ H a = some (.lst vs) ∧ Rps K G xs vs := by
  cases r with
  | loc h =>
    obtain ⟨_, vs, h1, h2⟩ := sm.addr e (by simp) h
    exact ⟨_, vs, rfl, h, h1, h2⟩
theorem cf_len : CallF X (.builtin "len") lenB := fun pins s σ H vs us Q I rv ⟨ds, S, G, sm, r, h⟩ => by
  unfold lenB at h
  split at h
  · obtain ⟨v, rfl, q⟩ := vals1 r
    cases q with
    | lst a b => exact call_len_seq pins s σ H _ us Q I rv ⟨_, _, rfl, .inl (SqL.of (sm.fr _ _ a)), h G H _ .refl sm (by rw [b.length]; exact .int _)⟩
  · obtain ⟨v, rfl, q⟩ := vals1 r
    cases q with
    | tup a b => exact call_len_seq pins s σ H _ us Q I rv ⟨_, _, rfl, .inr (SqT.mono a sm.fr), h G H _ .refl sm (by rw [b.length]; exact .int _)⟩
  · obtain ⟨v, rfl, q⟩ := vals1 r
    cases q with
    | src a b => exact call_len_seq pins s σ H _ us Q I rv ⟨_, _, rfl, .inl (SqL.mono a sm.fr), h G H _ .refl sm (by rw [b.length]; exact .int _)⟩
  · split at h
    · rename_i c
      obtain ⟨v, rfl, q⟩ := vals1 r
      cases q
      exact call_len_str pins s σ H _ us Q I rv ⟨_, rfl, c, h G H _ .refl sm (.int _)⟩
    · exact h.elim
  · split at h
    · rename_i c
      obtain ⟨v, rfl, q⟩ := vals1 r
      obtain ⟨a, ws, rfl, _, h1, h2⟩ := sm.list c q
      exact call_len_seq pins s σ H _ us Q I rv ⟨_, _, rfl, .inl (SqL.of h1), h G H _ .refl sm (by rw [h2.length]; exact .int _)⟩
    · exact h.elim
  · exact h.elim
theorem cf_abs : CallF X (.builtin "abs") absB := fun pins s σ H vs us Q I rv ⟨ds, S, G, sm, r, h⟩ => by
  unfold absB at h
  split at h
  · obtain ⟨v, rfl, q⟩ := vals1 r
    cases q
    exact call_abs pins s σ H _ us Q I rv ⟨_, rfl, h G H _ .refl sm (.int _)⟩
  · exact h.elim
theorem cf_int : CallF X (.type "int") intB := fun pins s σ H vs us Q I rv ⟨ds, S, G, sm, r, h⟩ => by
  unfold intB at h
  split at h
  · obtain ⟨v, rfl, q⟩ := vals1 r
    cases q
    exact call_int1 pins s σ H _ us Q I rv (.inl ⟨_, rfl, h G H _ .refl sm (.int _)⟩)
  · obtain ⟨v, rfl, q⟩ := vals1 r
    cases q
    exact call_int1 pins s σ H _ us Q I rv (.inr ⟨_, rfl, h G H _ .refl sm (.int _)⟩)
  · split at h
    · rename_i c
      split at h
      · rename_i c2
        obtain ⟨v, rfl, q⟩ := vals1 r
        cases q
        exact call_int_str pins s σ H _ us Q I rv ⟨_, _, rfl, c, c2, h G H _ .refl sm (.int _)⟩
      · exact h.elim
    · exact h.elim
  · exact h.elim
theorem cf_list : CallF X (.type "list") listB := fun pins s σ H vs us Q I rv ⟨ds, S, G, sm, r, h⟩ => by
  unfold listB at h
  split at h
  · obtain ⟨v, rfl, q⟩ := vals1 r
    cases q with
    | lst a b => exact call_list_of pins s σ H _ us Q I rv ⟨_, _, rfl, .inl (SqL.of (sm.fr _ _ a)), fun l hl => new_lst sm hl b h⟩
  · obtain ⟨v, rfl, q⟩ := vals1 r
    cases q with
    | tup a b => exact call_list_of pins s σ H _ us Q I rv ⟨_, _, rfl, .inr (SqT.mono a sm.fr), fun l hl => new_lst sm hl b h⟩
  · obtain ⟨v, rfl, q⟩ := vals1 r
    cases q with
    | src a b => exact call_list_of pins s σ H _ us Q I rv ⟨_, _, rfl, .inl (SqL.mono a sm.fr), fun l hl => new_lst sm hl b h⟩
  · exact h.elim
theorem new_cell {G : Gh} {S : Sto} {H : Hp} {p : Addr} {xs : List D} {vs : List V} {Q : VK} (sm : Sm X.K G S H) (hp : H p = none) (r : Rps X.K G xs vs) (h : sat X (Rp X.K) G H (.ok (.loc S.length) (S ++ [.lst xs])) Q) : Q (.ref p) (upd H p (.lst vs)) :=
  h _ _ _ (Stp.cell sm hp) (sm.new hp ⟨vs, upd_same, r.mono sm.new_le⟩) (.loc Gh.new_at)
theorem cf_listM : CallF X (.type "list") listM := fun pins s σ H vs us Q I rv ⟨ds, S, G, sm, r, h⟩ => by
  unfold listM at h
  split at h
  · obtain ⟨v, rfl, q⟩ := vals1 r
    cases q with
    | lst a b => exact call_list_of pins s σ H _ us Q I rv ⟨_, _, rfl, .inl (SqL.of (sm.fr _ _ a)), fun l hl => new_cell sm hl b h⟩
  · obtain ⟨v, rfl, q⟩ := vals1 r
    cases q with
    | tup a b => exact call_list_of pins s σ H _ us Q I rv ⟨_, _, rfl, .inr (SqT.mono a sm.fr), fun l hl => new_cell sm hl b h⟩
  · exact h.elim
theorem cf_tup : CallF X (.type "tuple") tupB := fun pins s σ H vs us Q I rv ⟨ds, S, G, sm, r, h⟩ => by
  unfold tupB at h
  split at h
  · obtain ⟨v, rfl, q⟩ := vals1 r
    cases q with
    | lst a b => exact call_tuple_of pins s σ H _ us Q I rv ⟨_, _, rfl, .inl ⟨SqL.of (sm.fr _ _ a), fun l hl => new_tup sm hl b h⟩⟩
  · obtain ⟨v, rfl, q⟩ := vals1 r
    cases q with
    | tup a b => exact call_tuple_of pins s σ H _ us Q I rv ⟨_, _, rfl, .inr ⟨SqT.mono a sm.fr, h G H _ .refl sm (.tup a b)⟩⟩
  · split at h
    · rename_i c
      obtain ⟨v, rfl, q⟩ := vals1 r
      obtain ⟨a, ws, rfl, _, h1, h2⟩ := sm.list c q
      exact call_tuple_of pins s σ H _ us Q I rv ⟨_, _, rfl, .inl ⟨SqL.of h1, fun l hl => new_tup sm hl h2 h⟩⟩
    · exact h.elim
  · exact h.elim
end
def tupE (ms : MA) : ME := fun ρ S => (ms ρ S).bind fun ds S1 => if ds.length ≤ 1000 then .ok (.tup ds) S1 else .no
def lstE (ms : MA) : ME := fun ρ S => (ms ρ S).bind fun ds S1 => if ds.length ≤ 1000 then .ok (.lst ds) S1 else .no
def lstM (ms : MA) : ME := fun ρ S => (ms ρ S).bind fun ds S1 => if ds.length ≤ 1000 then .ok (.loc S1.length) (S1 ++ [.lst ds]) else .no
theorem le_line {n : Nat} (h : n ≤ 1000) : n ≤ sizeLine := Nat.le_trans h (by decide)
section
variable {X : Cx} {es : List Expr} {ms : MA} {pos : Pos}
theorem qe_tup {x1} (h : QA X es ms) : QE X (.Tuple es x1 pos) (tupE ms) := qe_of (pe_tup h) fun ρ S G σ H Q sm re z => by
  refine ⟨ρ, S, G, sm, re, (sat.bind z).imp fun vs H1 w => ?_⟩
  obtain ⟨ds, S1, G1, le1, sm1, r1, q1⟩ := w
  split at q1
  · rename_i c
    exact ⟨by rw [r1.length]; exact le_line c, fun p hp => new_tup sm1 hp r1 q1⟩
  · exact q1.elim
theorem qe_lst (h : QA X es ms) : QE X (.List es pos) (lstE ms) := qe_of (pe_lst h) fun ρ S G σ H Q sm re z => by
  refine ⟨ρ, S, G, sm, re, (sat.bind z).imp fun vs H1 w => ?_⟩
  obtain ⟨ds, S1, G1, le1, sm1, r1, q1⟩ := w
  split at q1
  · rename_i c
    exact ⟨by rw [r1.length]; exact le_line c, fun p hp => new_lst sm1 hp r1 q1⟩
  · exact q1.elim
theorem qe_lstM (h : QA X es ms) : QE X (.List es pos) (lstM ms) := qe_of (pe_lst h) fun ρ S G σ H Q sm re z => by
  refine ⟨ρ, S, G, sm, re, (sat.bind z).imp fun vs H1 w => ?_⟩
  obtain ⟨ds, S1, G1, le1, sm1, r1, q1⟩ := w
  split at q1
  · rename_i c
    exact ⟨by rw [r1.length]; exact le_line c, fun p hp => new_cell sm1 hp r1 q1⟩
  · exact q1.elim
end
end PV
set_option Elab.async false
set_option linter.all false
set_option maxRecDepth 100000
set_option maxHeartbeats 4000000
namespace PV
open PySem PySem.Spec PyProof.Rows L2 ZL
def asStrs : List D → Option (List Str)
  | [] => some []
  | .str i :: xs => (asStrs xs).map (i :: ·)
  | _ :: _ => none
section
variable {K : PySem.W.Frag} {G : Gh}
end
section
variable {X : Cx}
end
def ixG : G2 := fun x y S => match y with
  | .int i => match x with
    | .lst xs => match atI xs i with
      | some d => .ok d S
      | none => .no
    | .tup xs => match atI xs i with
      | some d => .ok d S
      | none => .no
    | .src xs => match atI xs i with
      | some d => .ok d S
      | none => .no
    | .loc n => match S[n]? with
      | some (.lst xs) => match atI xs i with
        | some d => .ok d S
        | none => .no
      | _ => .no
    | .str z => if z.length ≤ sizeLine then match atI z.cps.toList i with
        | some c => .ok (.str ⟨#[c]⟩) S
        | none => .no
      else .no
    | _ => .no
  | _ => .no
theorem Rps.atI {K : PySem.W.Frag} {G : Gh} {xs : List D} {vs : List V} {i : Int} {d : D} (r : Rps K G xs vs) (h : atI xs i = some d) : ∃ v, L2.atI vs i = some v ∧ Rp K G d v := by
  unfold L2.atI at h ⊢
  rw [r.length]
  match e : ixN xs.length i, h with
  | some j, h => exact r.get h
  | none, h => cases h
section
variable {X : Cx} {a b : Expr} {ma mb : ME} {pos : Pos}
theorem ixR : IxR X (fun v w H Q => ∃ x y S G, Sm X.K G S H ∧ Rp X.K G x v ∧ Rp X.K G y w ∧ sat X (Rp X.K) G H (ixG x y S) Q) := fun ea eb pins s σ H v w u u' Q I rv rw' ⟨x, y, S, G, sm, rx, ry, h⟩ hs => by
  unfold ixG at h
  split at h
  · cases ry
    split at h
    · split at h
      · rename_i c
        cases rx with
        | lst p r =>
          obtain ⟨z, z1, z2⟩ := r.atI c
          exact ix_list ea eb pins s σ H _ _ u u' Q I rv rw' ⟨_, _, _, z, rfl, rfl, SqL.of (sm.fr _ _ p), z1, h G H _ .refl sm z2⟩ hs
      · exact h.elim
    · split at h
      · rename_i c
        cases rx with
        | tup p r =>
          obtain ⟨z, z1, z2⟩ := r.atI c
          exact ix_tup ea eb pins s σ H _ _ u u' Q I rv rw' ⟨_, _, _, z, rfl, rfl, SqT.mono p sm.fr, z1, h G H _ .refl sm z2⟩ hs
      · exact h.elim
    · split at h
      · rename_i c
        cases rx with
        | src p r =>
          obtain ⟨z, z1, z2⟩ := r.atI c
          exact ix_list ea eb pins s σ H _ _ u u' Q I rv rw' ⟨_, _, _, z, rfl, rfl, SqL.mono p sm.fr, z1, h G H _ .refl sm z2⟩ hs
      · exact h.elim
    · split at h
      · rename_i c0
        split at h
        · rename_i c
          obtain ⟨p, vs, rfl, _, h1, r⟩ := sm.list c0 rx
          obtain ⟨z, z1, z2⟩ := r.atI c
          exact ix_list ea eb pins s σ H _ _ u u' Q I rv rw' ⟨_, _, _, z, rfl, rfl, SqL.of h1, z1, h G H _ .refl sm z2⟩ hs
        · exact h.elim
      · exact h.elim
    · split at h
      · rename_i c0
        split at h
        · rename_i c
          cases rx
          exact ix_str ea eb pins s σ H _ _ u u' Q I rv rw' ⟨_, _, _, rfl, rfl, c0, c, h G H _ .refl sm (.str _)⟩ hs
        · exact h.elim
      · exact h.elim
    · exact h.elim
  · exact h.elim
theorem qe_ix (ha : QE X a ma) (hb : QE X b mb) (hs : PlainIx b := by exact fun _ _ => rfl) : QE X (.Subscript a b pos) (bin ixG ma mb) :=
  qe_of (pe_ix ixR ha hb hs) fun ρ S G σ H Q sm re h => by
    refine ⟨ρ, S, G, sm, re, (sat.bind h).imp fun v H1 w => ?_⟩
    obtain ⟨x, S1, G1, le1, sm1, r1, q1⟩ := w
    refine ⟨ρ, S1, G1, sm1, re.mono le1.le, (sat.bind q1).imp fun v' H2 w => ?_⟩
    obtain ⟨y, S2, G2, le2, sm2, r2, q2⟩ := w
    exact ⟨x, y, S2, G2, sm2, r1.mono le2.le, r2, q2⟩
end
abbrev MO := Ev → Sto → Out (Option Int)
def tO (X : Cx) (m : MO) : L2.St → Hp → (Option Int → Hp → Prop) → Prop := fun σ H Q => ∃ ρ S G, Sm X.K G S H ∧ Re X.K G ρ σ ∧ sat X (fun _ a b => a = b) G H (m ρ S) Q
abbrev QO (X : Cx) (e : Option Expr) (m : MO) : Prop := PO X e (tO X m)
def oNo : MO := fun _ S => .ok none S
def oSo (m : ME) : MO := fun ρ S => (m ρ S).bind fun d S1 => match d with
  | .int i => .ok (some i) S1
  | _ => .no
def cutD {α : Type} (xs : List α) (lo hi : Option Int) : List α := (xs.drop (HT.sIx xs.length 0 lo)).take (HT.sIx xs.length xs.length hi - HT.sIx xs.length 0 lo)
theorem cutD_whole {α : Type} {xs : List α} {lo hi : Option Int} (h : HT.sIx xs.length 0 lo = 0 ∧ HT.sIx xs.length xs.length hi = xs.length) : cutD xs lo hi = xs := by
  unfold cutD
  rw [h.1, h.2]
  simp
def slG (x : D) (lo hi : Option Int) (S : Sto) : Out D := match x with
  | .lst xs => .ok (.lst (cutD xs lo hi)) S
  | .src xs => .ok (.lst (cutD xs lo hi)) S
  | .tup xs => .ok (.tup (cutD xs lo hi)) S
  | .str z => if z.length ≤ sizeLine then .ok (.str (cutS z lo hi)) S else .no
  | .loc n => match S[n]? with
    | some (.lst xs) => .ok (.lst (cutD xs lo hi)) S
    | _ => .no
  | _ => .no
def sli (m : ME) (l h : MO) : ME := fun ρ S => (m ρ S).bind fun x S1 => (l ρ S1).bind fun lo S2 => (h ρ S2).bind fun hi S3 => slG x lo hi S3
theorem Rps.cutV {K : PySem.W.Frag} {G : Gh} {xs : List D} {vs : List V} (r : Rps K G xs vs) (lo hi : Option Int) : Rps K G (cutD xs lo hi) (L2.cutV vs lo hi) := by
  unfold cutD L2.cutV
  rw [r.length]
  exact (r.drop _).take _
section
variable {X : Cx} {e : Expr} {lo hi : Option Expr} {m : ME} {ml mh : MO} {p2 pos : Pos}
theorem qo_none : QO X none oNo := ⟨fun pins s σ H Q I ⟨ρ, S, G, sm, re, q⟩ => po_none.run pins s σ H Q I (q G H none .refl sm rfl)⟩
theorem qo_some (h : QE X e m) : QO X (some e) (oSo m) := ⟨fun pins s σ H Q I ⟨ρ, S, G, sm, re, q⟩ => (po_some h).run pins s σ H Q I (by
  refine ⟨ρ, S, G, sm, re, (sat.bind q).imp fun v H1 w => ?_⟩
  obtain ⟨d, S1, G1, le1, sm1, r1, q1⟩ := w
  cases r1 with
  | int i => exact ⟨i, rfl, q1 G1 H1 _ .refl sm1 rfl⟩
  | _ => exact q1.elim)⟩
theorem slR : SlR X (fun v lo hi H Q => ∃ x S G, Sm X.K G S H ∧ Rp X.K G x v ∧ sat X (Rp X.K) G H (slG x lo hi S) Q) := fun pins s σ H v u vl vu lo hi sl Q I rv hs pl pu ⟨x, S, G, sm, rx, h⟩ => by
  unfold slG at h
  split at h
  · cases rx with
    | lst p r => exact sl_list pins s σ H _ u vl vu lo hi sl Q I rv hs pl pu ⟨_, _, rfl, SqL.of (sm.fr _ _ p), fun l hl => new_lst sm hl (r.cutV lo hi) h⟩
  · cases rx with
    | src p r => exact sl_list pins s σ H _ u vl vu lo hi sl Q I rv hs pl pu ⟨_, _, rfl, SqL.mono p sm.fr, fun l hl => new_lst sm hl (r.cutV lo hi) h⟩
  · cases rx with
    | tup p r =>
      refine sl_tupA pins s σ H _ u vl vu lo hi sl Q I rv hs pl pu ⟨_, _, rfl, SqT.mono p sm.fr, fun e => ?_, fun _ l hl => new_tup sm hl (r.cutV lo hi) h⟩
      rw [r.length] at e
      rw [cutD_whole e] at h
      exact h G H _ .refl sm (.tup p r)
  · split at h
    · rename_i c
      cases rx
      exact sl_str pins s σ H _ u vl vu lo hi sl Q I rv hs pl pu ⟨_, rfl, c, h G H _ .refl sm (.str _)⟩
    · exact h.elim
  · split at h
    · rename_i c
      obtain ⟨p, vs, rfl, _, h1, r⟩ := sm.list c rx
      exact sl_list pins s σ H _ u vl vu lo hi sl Q I rv hs pl pu ⟨_, _, rfl, SqL.of h1, fun l hl => new_lst sm hl (r.cutV lo hi) h⟩
    · exact h.elim
  · exact h.elim
theorem qe_sli (h : QE X e m) (hl : QO X lo ml) (hh : QO X hi mh) : QE X (.Subscript e (.Slice lo hi none p2) pos) (sli m ml mh) :=
  qe_of (pe_slice slR h hl hh) fun ρ S G σ H Q sm re h => by
    refine ⟨ρ, S, G, sm, re, (sat.bind h).imp fun v H1 w => ?_⟩
    obtain ⟨x, S1, G1, le1, sm1, r1, q1⟩ := w
    refine ⟨ρ, S1, G1, sm1, re.mono le1.le, (sat.bind q1).imp fun l H2 w => ?_⟩
    obtain ⟨l', S2, G2, le2, sm2, r2, q2⟩ := w
    subst r2
    refine ⟨ρ, S2, G2, sm2, (re.mono le1.le).mono le2.le, (sat.bind q2).imp fun u H3 w => ?_⟩
    obtain ⟨u', S3, G3, le3, sm3, r3, q3⟩ := w
    subst r3
    exact ⟨x, S3, G3, sm3, (r1.mono le2.le).mono le3.le, q3⟩
end
def insOf (S : Sto) (d : D) : Option (String × List (String × D)) := match d with
  | .obj c fs => some (c, fs)
  | .loc n => match S[n]? with
    | some (.ins c fs) => some (c, fs)
    | _ => none
  | _ => none
theorem Sm.ins {K : PySem.W.Frag} {G : Gh} {S : Sto} {H : Hp} (sm : Sm K G S H) {d : D} {v : V} {c : String} {fs : List (String × D)} (e : insOf S d = some (c, fs)) (r : Rp K G d v) : ∃ a dx ws, v = .ref a ∧ H a = some (.ins (He.ga K (Str.ofString c)) dx ws) ∧ Rpf K G fs ws := by
  unfold insOf at e
  split at e
  · cases e
    cases r with
    | obj h r => exact ⟨_, _, _, rfl, sm.fr _ _ h, r⟩
  · split at e
    · rename_i q
      cases e
      cases r with
      | loc h =>
        obtain ⟨_, dx, ws, h1, h2⟩ := sm.addr q (by simp) h
        exact ⟨_, dx, ws, rfl, h1, h2⟩
    · cases e
  · cases e
def fldG (cs : List String) (f : String) : G1 := fun d S => match insOf S d with
  | some (c, fs) => if cs.contains c = true then match fs.lookup f with
      | some x => .ok x S
      | none => .no
    else .no
  | none => .no
structure CF (K : PySem.W.Frag) (c : String) : Prop where
  cl : Cls K (He.ga K (Str.ofString c))
  ca : PySem.W.findIn K (.ref (He.ga K (Str.ofString c))) "__class__" = some (some (.builtin "object.__class__"))
  cg : PySem.W.specialIn K (.builtin "object.__class__") "__get__" = some (some (.builtin "getset_descriptor.__get__"))
  ct : PySem.W.takesIn K (.builtin "object.__class__") = some true
  mo : PySem.W.mroIn K (He.ga K (Str.ofString c)) (.type "object") = some true
section
variable {X : Cx} {e : Expr} {m : ME} {pos : Pos}
theorem qe_fld {cs : List String} {f : String} (hc : ∀ c ∈ cs, Cls X.K (He.ga X.K (Str.ofString c)) ∧ NoAttr X.K (He.ga X.K (Str.ofString c)) (Str.ofString f)) (h : QE X e m) (hb : attributeBase e (Str.ofString f) X.env (eval e X.env) = eval e X.env := by rfl) : QE X (.Attribute e (Str.ofString f) pos) (una (fldG cs f) m) :=
  qe_of (pe_fld h hb) fun ρ S G σ H Q sm re h => by
    refine ⟨ρ, S, G, sm, re, (sat.bind h).imp fun v H1 w => ?_⟩
    obtain ⟨x, S1, G1, le1, sm1, r1, q1⟩ := w
    unfold fldG at q1
    split at q1
    · rename_i c fs ei
      split at q1
      · rename_i hm
        split at q1
        · rename_i y hl
          obtain ⟨a, dx, ws, rfl, ha, rf⟩ := sm1.ins ei r1
          obtain ⟨z, hz, rz⟩ := rf.at hl
          have hk := hc c (List.contains_iff_mem.mp hm)
          exact ⟨a, _, dx, ws, z, rfl, ha, hk.1, hk.2, hz, q1 G1 H1 z .refl sm1 rz⟩
        · exact q1.elim
      · exact q1.elim
    · exact q1.elim
def sFldS (cs : List String) (f : String) (o m : ME) : MS := fun ρ S => (m ρ S).bind fun y S1 => (o ρ S1).bind fun x S2 => match x with
  | .loc n => match S2[n]? with
    | some (.ins c fs) => if cs.contains c = true ∧ fs.length < 1000 then .ok (.nx ρ) (S2.set n (.ins c (putD f y fs))) else .no
    | _ => .no
  | _ => .no
theorem qs_fld {cs : List String} {f : String} {o : Expr} {mo : ME} {pos' : Pos} (hc : ∀ c ∈ cs, Cls X.K (He.ga X.K (Str.ofString c)) ∧ NoAttr X.K (He.ga X.K (Str.ofString c)) (Str.ofString f)) (ho : QE X o mo) (h : QE X e m)
    (hs : swapsWith e (some (.Attribute o (Str.ofString f) pos')) pos.line X.env = pure false := by rfl) : QS X (.Assign [.Attribute o (Str.ofString f) pos'] e pos) (sFldS cs f mo m) :=
  qs_of (ps_fld ho h hs) fun ρ S G σ H Q sm re h => by
    refine ⟨ρ, S, G, sm, re, (satS.bind h).imp fun v H1 w => ?_⟩
    obtain ⟨y, S1, G1, le1, sm1, r1, q1⟩ := w
    refine ⟨ρ, S1, G1, sm1, re.mono le1.le, (satS.bind q1).imp fun v' H2 w => ?_⟩
    obtain ⟨x, S2, G2, le2, sm2, r2, q2⟩ := w
    cases r2 with
    | loc hf =>
      simp only at q2
      split at q2
      · rename_i c fs hl
        split at q2
        · rename_i hm
          obtain ⟨hF, dx, ws, ha, rf⟩ := sm2.addr hl (by simp) hf
          have hk := hc c (List.contains_iff_mem.mp hm.1)
          refine ⟨_, _, dx, ws, rfl, ha, hk.1, hk.2, by rw [rf.length]; exact hm.2, ?_⟩
          exact q2 G2 _ σ (Stp.write hf) (sm2.write hl (by simp) hf ⟨dx, _, upd_same, rf.put (r1.mono le2.le)⟩) ((re.mono le1.le).mono le2.le)
        · exact q2.elim
      · exact q2.elim
    | _ => exact q2.elim
end
inductive Ty where
  | b (n : String) | c (n : String)
def tyD (S : Sto) (d : D) : Option Ty := match d with
  | .non => some (.b "NoneType")
  | .bl _ => some (.b "bool")
  | .int _ => some (.b "int")
  | .str _ => some (.b "str")
  | .tup _ => some (.b "tuple")
  | .lst _ => some (.b "list")
  | .dic0 => some (.b "dict")
  | .hob o => match o with
    | .dK _ => some (.b "dict")
    | _ => none
  | .obj c _ => some (.c c)
  | .loc n => match S[n]? with
    | some (.lst _) => some (.b "list")
    | some (.ins c _) => some (.c c)
    | _ => none
  | _ => none
def tyV' (K : PySem.W.Frag) : Ty → Value
  | .b n => .type n
  | .c n => .ref (He.ga K (Str.ofString n))
theorem tyX {K : PySem.W.Frag} {G : Gh} {S : Sto} {H : Hp} (sm : Sm K G S H) {d : D} {v : V} {t : Ty} (e : tyD S d = some t) (r : Rp K G d v) (hc : ∀ n, t = .c n → CF K n) : TyX K H v (tyV' K t) := by
  cases r with
  | non => cases e; exact .base .non
  | bl b => cases e; exact .base (.bl b)
  | int i => cases e; exact .base (.int i)
  | str x => cases e; exact .base (.str x)
  | tup h r =>
    cases e
    rcases SqT.mono h sm.fr with (q | ⟨o, q⟩) | ⟨o, its, n, q, c, _⟩
    · exact .base (.tup q)
    · exact .fTuple q
    · exact .kTuple q c
  | lst h r => cases e; exact .base (.lst (sm.fr _ _ h))
  | dic0 h => cases e; exact .base (.dK (sm.fr _ _ h))
  | @hob o a h =>
    cases o with
    | dK kvs => cases e; exact .base (.dK (sm.fr _ _ h))
    | _ => cases e
  | obj h r =>
    cases e
    have k := hc _ rfl
    exact .base (.ins (sm.fr _ _ h) k.cl k.ca k.cg k.ct k.mo)
  | @loc n a h =>
    unfold tyD at e
    simp only at e
    split at e
    · rename_i xs q
      cases e
      obtain ⟨_, vs, h1, _⟩ := sm.addr q (by simp) h
      exact .base (.lst h1)
    · rename_i c fs q
      cases e
      have k := hc _ rfl
      obtain ⟨_, dx, ws, h1, _⟩ := sm.addr q (by simp) h
      exact .base (.ins h1 k.cl k.ca k.cg k.ct k.mo)
    · cases e
  | _ => cases e
def six : List String := ["NoneType", "bool", "int", "str", "tuple", "list", "dict"]
def subT (n T : String) : Bool := decide (n = T) || (decide (n = "bool") && decide (T = "int"))
theorem kit_six : ∀ n ∈ six, ∀ T ∈ six, kitB n T = some (subT n T) := by decide +kernel
theorem tyD_six {S : Sto} {d : D} {n : String} (h : tyD S d = some (.b n)) : n ∈ six := by
  unfold tyD at h
  split at h <;> first | (cases h; decide) | (cases h; done) | skip
  all_goals (split at h <;> first | (cases h; decide) | cases h)
def isiB (T : String) (cs : List String) (t : Ty) : Option Bool := match t with
  | .b n => some (subT n T)
  | .c n => if cs.contains n = true then some false else none
def isiC (τ : List (String × Bool)) (t : Ty) : Option Bool := match t with
  | .b _ => some false
  | .c n => τ.lookup n
def isiF (ans : Ty → Option Bool) (cls : D → Bool) : Fn := fun ds S => match ds with
  | [x, c] => if cls c = true then match tyD S x with
      | some t => match ans t with
        | some b => .ok (.bl b) S
        | none => .no
      | none => .no
    else .no
  | _ => .no
def isTy (T : String) : D → Bool
  | .ty n => decide (n = T)
  | _ => false
def isCl (C : String) : D → Bool
  | .cls n => decide (n = C)
  | _ => false
section
variable {X : Cx}
theorem cf_isi {ans : Ty → Option Bool} {cls : D → Bool} {w : Value} (hcl : ∀ c, cls c = true → ∀ G v, Rp X.K G c v → ClsV v w) (hans : ∀ t b, (∀ n, t = .b n → n ∈ six) → ans t = some b → PySem.W.kitOne X.K (tyV' X.K t) w = some b ∧ ∀ n, t = .c n → CF X.K n) :
    CallF X (.builtin "isinstance") (isiF ans cls) := fun pins s σ H vs us Q I rv ⟨ds, S, G, sm, r, h⟩ => by
  unfold isiF at h
  split at h
  · split at h
    · rename_i x c hcc
      split at h
      · rename_i t ht
        split at h
        · rename_i b hb
          obtain ⟨v, u, rfl, q, q'⟩ := vals2' r
          obtain ⟨k1, k2⟩ := hans t b (fun n e => by subst e; exact tyD_six ht) hb
          exact call_isi pins s σ H _ us Q I rv ⟨v, u, _, w, b, rfl, hcl c hcc G u q', tyX sm ht q k2, k1, h G H _ .refl sm (.bl b)⟩
        · exact h.elim
      · exact h.elim
    · exact h.elim
  · exact h.elim
theorem cf_isiB {T : String} {cs : List String} (hT : T ∈ six) (hc : ∀ c ∈ cs, CF X.K c ∧ PySem.W.kitOne X.K (.ref (He.ga X.K (Str.ofString c))) (.type T) = some false) : CallF X (.builtin "isinstance") (isiF (isiB T cs) (isTy T)) :=
  cf_isi (w := .type T) (fun c h G v r => by
    cases r <;> simp [isTy] at h
    subst h
    exact .ty _) fun t b h6 e => by
    match t, e with
    | .b n, e =>
      cases e
      exact ⟨kit_ty (kit_six n (h6 n rfl) T hT), fun m z => by cases z⟩
    | .c n, e =>
      simp only [isiB] at e
      split at e
      · rename_i hm
        cases e
        have k := hc n (List.contains_iff_mem.mp hm)
        exact ⟨k.2, fun m z => by cases z; exact k.1⟩
      · cases e
theorem cf_isiC {C : String} {τ : List (String × Bool)} (h6 : ∀ n ∈ six, PySem.W.kitOne X.K (.type n) (.ref (He.ga X.K (Str.ofString C))) = some false) (hc : ∀ c b, τ.lookup c = some b → CF X.K c ∧ PySem.W.kitOne X.K (.ref (He.ga X.K (Str.ofString c))) (.ref (He.ga X.K (Str.ofString C))) = some b) :
    CallF X (.builtin "isinstance") (isiF (isiC τ) (isCl C)) :=
  cf_isi (w := .ref (He.ga X.K (Str.ofString C))) (fun c h G v r => by
    cases r <;> simp [isCl] at h
    subst h
    exact .own _) fun t b hs e => by
    match t, e with
    | .b n, e =>
      cases e
      exact ⟨h6 n (hs n rfl), fun m z => by cases z⟩
    | .c n, e =>
      have k := hc n b e
      exact ⟨k.2, fun m z => by cases z; exact k.1⟩
end
end PV
set_option Elab.async false
set_option linter.all false
set_option maxRecDepth 100000
set_option maxHeartbeats 4000000
namespace PV
open PySem PySem.Spec PyProof.Rows L2 ZL
inductive Tg where
  | nm (i : Nat) | tp (is : List Nat) | tn (i : Nat) (is : List Nat) | tl (is : List Nat)
def Tg.slots : Tg → List Nat
  | .nm i => [i]
  | .tp is => is
  | .tn i is => i :: is
  | .tl is => is
def setAll : List Nat → List D → Ev → Option Ev
  | [], [], ρ => some ρ
  | i :: is, d :: ds, ρ => setAll is ds (ρ.set i (some d))
  | _, _, _ => none
def setT (T : Tg) (d : D) (ρ : Ev) : Option Ev := match T with
  | .nm i => some (ρ.set i (some d))
  | .tp is => match d with
    | .tup ds => setAll is ds ρ
    | _ => none
  | .tn i is => match d with
    | .tup [a, .tup ds] => setAll is ds (ρ.set i (some a))
    | _ => none
  | .tl is => match d with
    | .lst ds => setAll is ds ρ
    | _ => none
def tG (X : Cx) (T : Tg) : TG := fun v σ H Q => ∃ d ρ ρ' G, (∀ a o, G.F a = some o → H a = some o) ∧ Re X.K G ρ σ ∧ Rp X.K G d v ∧ setT T d ρ = some ρ' ∧ ∀ σ', Re X.K G ρ' σ' → (∀ vs, (∀ i ∈ T.slots, i ∈ vs) → wipe σ' vs = wipe σ vs) → Q σ' H
abbrev QG (X : Cx) (tg : Expr) (T : Tg) : Prop := PG X tg (tG X T)
theorem wipe_set {σ : L2.St} {i : Nat} {v : Option V} : ∀ {vs : List Nat}, i ∈ vs → wipe (σ.set i v) vs = wipe σ vs
  | [], h => by simp at h
  | j :: vs, h => by
    unfold wipe
    by_cases e : i ∈ vs
    · rw [wipe_set e]
    · rcases List.mem_cons.mp h with q | q
      · subst q
        have go : ∀ us : List Nat, i ∉ us → (wipe (σ.set i v) us) = (wipe σ us).set i v := by
          intro us
          induction us with
          | nil => intro _; rfl
          | cons k us ih =>
            intro hn
            unfold wipe
            rw [ih fun z => hn (List.mem_cons_of_mem _ z), List.set_comm]
            intro z
            exact hn (by rw [z]; exact List.mem_cons_self)
        rw [go vs e, List.set_set]
      · exact absurd q e
def tGs (X : Cx) (is : List Nat) : TGs := fun vs σ H Q => ∃ ds ρ ρ' G, (∀ a o, G.F a = some o → H a = some o) ∧ Re X.K G ρ σ ∧ Rps X.K G ds vs ∧ setAll is ds ρ = some ρ' ∧ ∀ σ', Re X.K G ρ' σ' → (∀ us, (∀ i ∈ is, i ∈ us) → wipe σ' us = wipe σ us) → Q σ' H
section
variable {X : Cx} {pos : Pos}
theorem qg_name (i : Nat) {x : Str} (hN : X.N.Nodup) (hi : X.N[i]? = some x := by rfl) (hx : Loc X.env.scope x := by first | exact .inl rfl | exact .inr rfl) (hf : X.fn x = true ∨ X.env.scope.names.lookup x = some .local := by first | exact .inl rfl | exact .inr rfl) : QG X (.Name x pos) (.nm i) := by
  refine ⟨fun pins s σ H v u Q I r h => (pg_name hN hi hx hf).run pins s σ H v u Q I r ?_⟩
  obtain ⟨d, ρ, ρ', G, fr, re, rd, e, q⟩ := h
  cases e
  exact q _ (re.set i rd) fun vs hv => wipe_set (hv i List.mem_cons_self)
theorem qgs_nil : PGs X [] (tGs X []) := by
  refine ⟨fun pins s σ H vs us Q I r h => pgs_nil.run pins s σ H vs us Q I r ?_⟩
  obtain ⟨ds, ρ, ρ', G, fr, re, rd, e, q⟩ := h
  match ds, e with
  | [], e => cases e; cases rd; exact ⟨rfl, q σ re fun _ _ => rfl⟩
  | _ :: _, e => cases e
theorem qgs_cons (i : Nat) {x : Str} {es : List Expr} {is : List Nat} (hr : PGs X es (tGs X is)) (hN : X.N.Nodup) (hi : X.N[i]? = some x := by rfl) (hx : Loc X.env.scope x := by first | exact .inl rfl | exact .inr rfl) (hf : X.fn x = true ∨ X.env.scope.names.lookup x = some .local := by first | exact .inl rfl | exact .inr rfl)
    (hs : (assignEach (.Name x pos :: es) X.env).map (·.2) = assign (.Name x pos) X.env :: (assignEach es X.env).map (·.2) := by rfl) : PGs X (.Name x pos :: es) (tGs X (i :: is)) := by
  refine ⟨fun pins s σ H vs us Q I r h => (pgs_cons (pg_name (pos := pos) hN hi hx hf) hr hs).run pins s σ H vs us Q I r ?_⟩
  obtain ⟨ds, ρ, ρ', G, fr, re, rd, e, q⟩ := h
  match ds, rd, e with
  | [], _, e => cases e
  | d :: ds, .cons a b, e =>
    refine ⟨_, _, rfl, ds, _, ρ', G, fr, re.set i a, b, e, fun σ' r' w' => q σ' r' fun us hu => ?_⟩
    rw [w' us fun k hk => hu k (List.mem_cons_of_mem _ hk)]
    exact wipe_set (hu i List.mem_cons_self)
theorem qg_tup {es : List Expr} {kk n : Nat} {is : List Nat} (hc : X.calm = true) (h : PGs X es (tGs X is)) (hl : is.length = n) (hn : (assignEach es X.env).length = n := by rfl) (hst : (assignEach es X.env).findIdx? (·.1) = none := by rfl) : QG X (.Tuple es kk pos) (.tp is) := by
  refine ⟨fun pins s σ H v u Q I r z => (pg_tup hc h hn hst).run pins s σ H v u Q I r ?_⟩
  obtain ⟨d, ρ, ρ', G, fr, re, rd, e, q⟩ := z
  match d, rd, e with
  | .tup ds, .tup h1 r1, e =>
    have e' : setAll is ds ρ = some ρ' := e
    have len : ∀ (is : List Nat) (ds : List D) (ρ ρ' : Ev), setAll is ds ρ = some ρ' → ds.length = is.length := by
      intro is
      induction is with
      | nil => intro ds ρ ρ' h; cases ds with | nil => rfl | cons _ _ => cases h
      | cons i is ih => intro ds ρ ρ' h; cases ds with | nil => cases h | cons d ds => simp [ih ds _ _ h]
    exact ⟨_, _, rfl, SqT.mono h1 fr, by rw [r1.length, len _ _ _ _ e', hl], ds, ρ, ρ', G, fr, re, r1, e', q⟩
  | .non, _, e => cases e
  | .bl _, _, e => cases e
  | .int _, _, e => cases e
  | .str _, _, e => cases e
  | .lst _, _, e => cases e
  | .obj _ _, _, e => cases e
  | .loc _, _, e => cases e
  | .cls _, _, e => cases e
  | .fnc _, _, e => cases e
  | .ty _, _, e => cases e
  | .src _, _, e => cases e
  | .dic0, _, e => cases e
  | .hob _, _, e => cases e
  | .exc _ _, _, e => cases e
  | .ntp _, _, e => cases e
end
def Gd (o : Option Nat) (xs : List D) (S : Sto) : Prop := match o with
  | none => True
  | some n => S[n]? = some (.lst xs)
structure WalkD (K : PySem.W.Frag) (G : Gh) (xs : List D) (o : Option Nat) (J : It) : Prop where
  goes : ∀ i G' S H, G.le G' → Sm K G' S H → Gd o xs S → i < xs.length → J.go i H
  stops : ∀ G' S H, G.le G' → Sm K G' S H → Gd o xs S → J.stop xs.length H
  yields : ∀ i G' S H x H' d, G.le G' → Sm K G' S H → Gd o xs S → xs[i]? = some d → J.yld i H x H' → ∃ G'', Stp G' H G'' H' ∧ Sm K G'' S H' ∧ Rp K G'' d x
abbrev MI := Ev → Sto → Out (List D × Option Nat)
def tI (X : Cx) (m : MI) : TI := fun σ H R => ∃ ρ S G, Sm X.K G S H ∧ Re X.K G ρ σ ∧ sat X (fun G' a (J : It) => WalkD X.K G' a.1 a.2 J) G H (m ρ S) (fun J H' => R J H')
abbrev QI (X : Cx) (tg iter : Expr) (m : MI) : Prop := PI X tg iter (tI X m)
theorem PI.or {X : Cx} {tg iter : Expr} {w w' : TI} (h : PI X tg iter w) (h' : PI X tg iter w') : PI X tg iter (fun σ H R => w σ H R ∨ w' σ H R) := ⟨fun pins s σ H R I z => z.elim (h.run pins s σ H R I) (h'.run pins s σ H R I)⟩
def itemsD (S : Sto) (d : D) : Option (List D × Option Nat) := match d with
  | .lst xs => some (xs, none)
  | .tup xs => some (xs, none)
  | .src xs => some (xs, none)
  | .loc n => match S[n]? with
    | some (.lst xs) => some (xs, some n)
    | _ => none
  | _ => none
def signs (z : Str) : List D := z.cps.toList.map fun c => .str ⟨#[c]⟩
def itemsI (S : Sto) (d : D) : Option (List D × Option Nat) := match d with
  | .str z => some (signs z, none)
  | d => itemsD S d
def iSeq (m : ME) : MI := fun ρ S => (m ρ S).bind fun d S1 => match itemsI S1 d with
  | some p => .ok p S1
  | none => .no
def ups (lo : Int) (n : Nat) : List D := (List.range n).map fun i => .int (lo + (i : Nat))
def near62 (i : Int) : Bool := decide (-(2 ^ 62) ≤ i ∧ i < 2 ^ 62)
def iR1 (m : MA) : MI := fun ρ S => (m ρ S).bind fun ds S1 => match ds with
  | [.int j] => if near62 j = true then .ok (ups 0 j.toNat, none) S1 else .no
  | _ => .no
def iR2 (m : MA) : MI := fun ρ S => (m ρ S).bind fun ds S1 => match ds with
  | [.int i, .int j] => if near62 i = true ∧ near62 j = true then .ok (ups i (j - i).toNat, none) S1 else .no
  | _ => .no
def numbered (k : Int) : List D → List D
  | [] => []
  | x :: xs => .tup [.int k, x] :: numbered (k + 1) xs
def enD (ds : List D) (S1 : Sto) : Out (List D × Option Nat) := match ds with
  | [d] => match itemsD S1 d with
    | some (xs, none) => .ok (numbered 0 xs, none) S1
    | _ => .no
  | _ => .no
def iEn (m : MA) : MI := fun ρ S => (m ρ S).bind enD
theorem numbered_length : ∀ (k : Int) (xs : List D), (numbered k xs).length = xs.length
  | _, [] => rfl
  | k, x :: xs => by simp [numbered, numbered_length (k + 1) xs]
theorem numbered_get : ∀ {k : Int} {xs : List D} {i : Nat} {d : D}, (numbered k xs)[i]? = some d → ∃ x, xs[i]? = some x ∧ d = .tup [.int (k + (i : Nat)), x]
  | _, [], _, _, h => by simp [numbered] at h
  | k, x :: xs, 0, d, h => by simp [numbered] at h; exact ⟨x, rfl, by simp [h]⟩
  | k, x :: xs, i + 1, d, h => by
    simp only [numbered, List.getElem?_cons_succ] at h
    obtain ⟨y, h1, h2⟩ := numbered_get h
    refine ⟨y, by simpa using h1, ?_⟩
    rw [h2]
    congr 3
    push_cast
    omega
theorem ups_length (lo : Int) (n : Nat) : (ups lo n).length = n := by simp [ups]
theorem ups_get {lo : Int} {n i : Nat} {d : D} (h : (ups lo n)[i]? = some d) : d = .int (lo + (i : Nat)) := by
  unfold ups at h
  rw [List.getElem?_map] at h
  cases e : (List.range n)[i]? with
  | none => rw [e] at h; cases h
  | some j =>
    rw [e] at h
    have := List.getElem?_eq_some_iff.mp e
    obtain ⟨h1, h2⟩ := this
    simp at h2
    subst h2
    exact (Option.some.inj h).symm
section
variable {K : PySem.W.Frag} {G : Gh}
theorem walkL {xs : List D} {vs : List V} {a : Addr} (h : SqL K G.F a vs) (r : Rps K G xs vs) : WalkD K G xs none (Itl K a) where
  goes := fun i G' S H le sm _ hi => walk_list.goes i H (by rw [r.length]; exact hi) (SqL.mono (SqL.mono h le.1) sm.fr)
  stops := fun G' S H le sm _ => by rw [← r.length]; exact walk_list.stops H (SqL.mono (SqL.mono h le.1) sm.fr)
  yields := fun i G' S H x H' d le sm _ hd y => by
    have hi : i < vs.length := by rw [r.length]; exact (List.getElem?_eq_some_iff.mp hd).1
    obtain ⟨rfl, hx⟩ := walk_list.yields i H x H' hi (SqL.mono (SqL.mono h le.1) sm.fr) y
    obtain ⟨d', h1, h2⟩ := r.get' hx
    rw [hd] at h1
    cases h1
    exact ⟨G', .refl, sm, h2.mono le⟩
theorem walkT {xs : List D} {vs : List V} {a : Addr} (h : SqT K G.F a vs) (r : Rps K G xs vs) : WalkD K G xs none (Itt K a) where
  goes := fun i G' S H le sm _ hi => walk_tup.goes i H (by rw [r.length]; exact hi) (SqT.mono (SqT.mono h le.1) sm.fr)
  stops := fun G' S H le sm _ => by rw [← r.length]; exact walk_tup.stops H (SqT.mono (SqT.mono h le.1) sm.fr)
  yields := fun i G' S H x H' d le sm _ hd y => by
    have hi : i < vs.length := by rw [r.length]; exact (List.getElem?_eq_some_iff.mp hd).1
    obtain ⟨rfl, hx⟩ := walk_tup.yields i H x H' hi (SqT.mono (SqT.mono h le.1) sm.fr) y
    obtain ⟨d', h1, h2⟩ := r.get' hx
    rw [hd] at h1
    cases h1
    exact ⟨G', .refl, sm, h2.mono le⟩
theorem walkC {xs : List D} {n : Nat} {a : Addr} (h : G.f n = some a) : WalkD K G xs (some n) (Itl K a) where
  goes := fun i G' S H le sm g hi => by
    obtain ⟨_, vs, h1, r⟩ := sm.addr g (by simp) (le.2 _ _ h)
    exact walk_list.goes i H (by rw [r.length]; exact hi) (SqL.of h1)
  stops := fun G' S H le sm g => by
    obtain ⟨_, vs, h1, r⟩ := sm.addr g (by simp) (le.2 _ _ h)
    rw [← r.length]
    exact walk_list.stops H (SqL.of h1)
  yields := fun i G' S H x H' d le sm g hd y => by
    obtain ⟨_, vs, h1, r⟩ := sm.addr g (by simp) (le.2 _ _ h)
    have hi : i < vs.length := by rw [r.length]; exact (List.getElem?_eq_some_iff.mp hd).1
    obtain ⟨rfl, hx⟩ := walk_list.yields i H x H' hi (SqL.of h1) y
    obtain ⟨d', h1, h2⟩ := r.get' hx
    rw [hd] at h1
    cases h1
    exact ⟨G', .refl, sm, h2⟩
theorem walkR {lo : Int} {n : Nat} : WalkD K G (ups lo n) none (Itr lo n) where
  goes := fun i G' S H le sm _ hi => walk_range.goes i H (by rw [ups_length] at hi; exact hi) trivial
  stops := fun G' S H le sm _ => by rw [ups_length]; exact walk_range.stops H trivial
  yields := fun i G' S H x H' d le sm _ hd y => by
    have hi : i < n := by have := (List.getElem?_eq_some_iff.mp hd).1; rw [ups_length] at this; exact this
    obtain ⟨rfl, rfl⟩ := walk_range.yields i H x H' hi trivial y
    rw [ups_get hd]
    exact ⟨G', .refl, sm, .int _⟩
theorem walkS {z : Str} : WalkD K G (signs z) none (Its z) where
  goes := fun i G' S H le sm _ hi => walk_str.goes i H (by simpa [signs] using hi) trivial
  stops := fun G' S H le sm _ => by
    have e : (signs z).length = z.cps.size := by simp [signs]
    rw [e]
    exact walk_str.stops H trivial
  yields := fun i G' S H x H' d le sm _ hd y => by
    have hi : i < z.cps.size := by have := (List.getElem?_eq_some_iff.mp hd).1; simpa [signs] using this
    obtain ⟨rfl, c, hc, rfl⟩ := walk_str.yields i H x H' hi trivial y
    have e : d = .str ⟨#[c]⟩ := by
      unfold signs at hd
      rw [List.getElem?_map, Array.getElem?_toList, hc] at hd
      exact (Option.some.inj hd).symm
    subst e
    exact ⟨G', .refl, sm, .str _⟩
theorem pair_yield {xs : List D} {o : Option Nat} {G' : Gh} {S : Sto} {H H' : Hp} {T : Addr} {v w : V} {d e : D} (sm : Sm K G' S H) (hT : H T = none) (h : H' = upd H T (.tup [v, w])) (rd : Rp K G' d v) (re : Rp K G' e w) : ∃ G'', Stp G' H G'' H' ∧ Sm K G'' S H' ∧ Rp K G'' (.tup [d, e]) (.ref T) := by
  subst h
  have st := Stp.put (o := .tup [v, w]) sm hT
  exact ⟨_, st, sm.put hT, .tup (SqT.of upd_same) (.cons (rd.mono st.le) (.cons (re.mono st.le) .nil))⟩
theorem walkE {xs : List D} {vs : List V} {a : Addr} (h : SqL K G.F a vs) (r : Rps K G xs vs) : WalkD K G (numbered 0 xs) none (Ite K a) where
  goes := fun i G' S H le sm _ hi => walk_enum.goes i H (by rw [r.length]; rw [numbered_length] at hi; exact hi) (SqL.mono (SqL.mono h le.1) sm.fr)
  stops := fun G' S H le sm _ => by rw [numbered_length, ← r.length]; exact walk_enum.stops H (SqL.mono (SqL.mono h le.1) sm.fr)
  yields := fun i G' S H x H' d le sm _ hd y => by
    have hi : i < vs.length := by rw [r.length]; have := (List.getElem?_eq_some_iff.mp hd).1; rw [numbered_length] at this; exact this
    obtain ⟨T, v, w, rfl, hT, hH, h4, h5⟩ := walk_enum.yields i H x H' hi (SqL.mono (SqL.mono h le.1) sm.fr) y
    obtain ⟨z, h6, rfl⟩ := numbered_get hd
    obtain ⟨d', h7, h8⟩ := r.get' h5
    rw [h6] at h7
    cases h7
    cases h4
    refine pair_yield (xs := []) (o := none) sm hT hH ?_ (h8.mono le)
    rw [Int.zero_add]
    exact .int _
theorem walkET {xs : List D} {vs : List V} {a : Addr} (h : SqT K G.F a vs) (r : Rps K G xs vs) : WalkD K G (numbered 0 xs) none (IteT K a) where
  goes := fun i G' S H le sm _ hi => walk_enumT.goes i H (by rw [r.length]; rw [numbered_length] at hi; exact hi) (SqT.mono (SqT.mono h le.1) sm.fr)
  stops := fun G' S H le sm _ => by rw [numbered_length, ← r.length]; exact walk_enumT.stops H (SqT.mono (SqT.mono h le.1) sm.fr)
  yields := fun i G' S H x H' d le sm _ hd y => by
    have hi : i < vs.length := by rw [r.length]; have := (List.getElem?_eq_some_iff.mp hd).1; rw [numbered_length] at this; exact this
    obtain ⟨T, v, w, rfl, hT, hH, h4, h5⟩ := walk_enumT.yields i H x H' hi (SqT.mono (SqT.mono h le.1) sm.fr) y
    obtain ⟨z, h6, rfl⟩ := numbered_get hd
    obtain ⟨d', h7, h8⟩ := r.get' h5
    rw [h6] at h7
    cases h7
    cases h4
    refine pair_yield (xs := []) (o := none) sm hT hH ?_ (h8.mono le)
    rw [Int.zero_add]
    exact .int _
end
section
variable {X : Cx} {tg e : Expr} {m : ME} {ms : MA} {p pos : Pos}
theorem qi_seq (h : QE X e m) : QI X tg e (iSeq m) := ⟨fun pins s σ H R I ⟨ρ, S, G, sm, re, q⟩ => (PI.or (pi_list h) (PI.or (pi_tup h) (pi_str h))).run pins s σ H R I (by
  match em : m ρ S, q with
  | .ex c fs S', q =>
    refine .inl ⟨ρ, S, G, sm, re, ?_⟩
    rw [em]
    have q' : sat X _ G H ((m ρ S).bind _) _ := q
    rw [em] at q'
    exact q'
  | .no, q =>
    have q' : sat X _ G H ((m ρ S).bind _) _ := q
    rw [em] at q'
    exact q'.elim
  | .ok d S1, q =>
    have q' : sat X _ G H ((m ρ S).bind _) _ := q
    rw [em] at q'
    have q'' : sat X (fun G' (a : List D × Option Nat) (J : It) => WalkD X.K G' a.1 a.2 J) G H (match itemsI S1 d with | some p => .ok p S1 | none => .no) (fun J H' => R J H') := q'
    clear q q'
    match d, q'' with
    | .lst xs, q => refine .inl ⟨ρ, S, G, sm, re, ?_⟩; rw [em]; intro G' H' v le sm' r; cases r with | lst a b => exact ⟨_, rfl, ⟨_, SqL.of (sm'.fr _ _ a)⟩, q G' H' _ le sm' (walkL (SqL.of a) b)⟩
    | .src xs, q => refine .inl ⟨ρ, S, G, sm, re, ?_⟩; rw [em]; intro G' H' v le sm' r; cases r with | src a b => exact ⟨_, rfl, ⟨_, SqL.mono a sm'.fr⟩, q G' H' _ le sm' (walkL a b)⟩
    | .str z, q => refine .inr (.inr ⟨ρ, S, G, sm, re, ?_⟩); rw [em]; intro G' H' v le sm' r; cases r; exact ⟨z, rfl, q G' H' _ le sm' walkS⟩
    | .tup xs, q => refine .inr (.inl ⟨ρ, S, G, sm, re, ?_⟩); rw [em]; intro G' H' v le sm' r; cases r with | tup a b => exact ⟨_, rfl, ⟨_, SqT.mono a sm'.fr⟩, q G' H' _ le sm' (walkT a b)⟩
    | .loc n, q =>
      refine .inl ⟨ρ, S, G, sm, re, ?_⟩
      rw [em]
      intro G' H' v le sm' r
      simp only [itemsI, itemsD] at q
      cases r with
      | loc hf =>
        match hn : S1[n]?, q with
        | some (.lst xs), q =>
          obtain ⟨_, vs, h1, h2⟩ := sm'.addr hn (by simp) hf
          exact ⟨_, rfl, ⟨_, SqL.of h1⟩, q G' H' _ le sm' (walkC hf)⟩
        | some (.ins _ _), q => exact q.elim
        | some .dead, q => exact q.elim
        | none, q => exact q.elim
    | .non, q => exact q.elim
    | .bl _, q => exact q.elim
    | .int _, q => exact q.elim
    | .obj _ _, q => exact q.elim
    | .cls _, q => exact q.elim
    | .fnc _, q => exact q.elim
    | .ty _, q => exact q.elim
    | .dic0, q => exact q.elim
    | .exc _ _, q => exact q.elim
    | .ntp _, q => exact q.elim
    | .hob _, q => exact q.elim)⟩
theorem qi_range1 (hm : X.mg "range" = none) (ha : QA X [e] ms) (hg : Gl X "range" := by rfl) (hs : starEach [e] X.env = [(false, eval e X.env)] := by rfl) : QI X tg (.Call (.Name "range" p) [e] [] pos) (iR1 ms) := ⟨fun pins s σ H R I ⟨ρ, S, G, sm, re, q⟩ => (pi_range1 hg hm ha hs).run pins s σ H R I (by
  refine ⟨ρ, S, G, sm, re, (sat.bind q).imp fun v H1 w => ?_⟩
  obtain ⟨ds, S1, G1, le1, sm1, r1, q1⟩ := w
  split at q1
  · split at q1
    · rename_i c
      obtain ⟨v, rfl, r⟩ := vals1 r1
      cases r
      have c' := of_decide_eq_true c
      exact ⟨_, rfl, c'.1, c'.2, q1 G1 H1 _ .refl sm1 walkR⟩
    · exact q1.elim
  · exact q1.elim)⟩
theorem qi_enum {elts : List Expr} {kk : Nat} {tpos : Pos} (hm : X.mg "enumerate" = none) (ha : QA X [e] ms) (hg : Gl X "enumerate" := by rfl) (hs : starEach [e] X.env = [(false, eval e X.env)] := by rfl) : QI X (.Tuple elts kk tpos) (.Call (.Name "enumerate" p) [e] [] pos) (iEn ms) := ⟨fun pins s σ H R I ⟨ρ, S, G, sm, re, q⟩ => (PI.or (pi_enum hg hm ha hs) (pi_enumT hg hm ha hs)).run pins s σ H R I (by
  match em : ms ρ S, q with
  | .ex c fs S', q =>
    refine .inl ⟨ρ, S, G, sm, re, ?_⟩
    rw [em]
    have q' : sat X _ G H ((ms ρ S).bind _) _ := q
    rw [em] at q'
    exact q'
  | .no, q =>
    have q' : sat X _ G H ((ms ρ S).bind _) _ := q
    rw [em] at q'
    exact q'.elim
  | .ok ds S1, q =>
    have q' : sat X _ G H ((ms ρ S).bind _) _ := q
    rw [em] at q'
    have q'' : sat X (fun G' (a : List D × Option Nat) (J : It) => WalkD X.K G' a.1 a.2 J) G H (enD ds S1) (fun J H' => R J H') := q'
    clear q q'
    match ds, q'' with
    | [.lst xs], q => refine .inl ⟨ρ, S, G, sm, re, ?_⟩; rw [em]; intro G' H' v le sm' rr; obtain ⟨v, rfl, r⟩ := vals1 rr; cases r with | lst a b => exact ⟨_, _, rfl, SqL.of (sm'.fr _ _ a), q G' H' _ le sm' (walkE (SqL.of a) b)⟩
    | [.src xs], q => refine .inl ⟨ρ, S, G, sm, re, ?_⟩; rw [em]; intro G' H' v le sm' rr; obtain ⟨v, rfl, r⟩ := vals1 rr; cases r with | src a b => exact ⟨_, _, rfl, SqL.mono a sm'.fr, q G' H' _ le sm' (walkE a b)⟩
    | [.tup xs], q => refine .inr ⟨ρ, S, G, sm, re, ?_⟩; rw [em]; intro G' H' v le sm' rr; obtain ⟨v, rfl, r⟩ := vals1 rr; cases r with | tup a b => exact ⟨_, _, rfl, SqT.mono a sm'.fr, q G' H' _ le sm' (walkET a b)⟩
    | [.loc n], q =>
      simp only [enD, itemsD] at q
      match hn : S1[n]?, q with
      | some (.lst xs), q => exact q.elim
      | some (.ins _ _), q => exact q.elim
      | some .dead, q => exact q.elim
      | none, q => exact q.elim
    | [.non], q => exact q.elim
    | [.bl _], q => exact q.elim
    | [.int _], q => exact q.elim
    | [.str _], q => exact q.elim
    | [.obj _ _], q => exact q.elim
    | [.cls _], q => exact q.elim
    | [.fnc _], q => exact q.elim
    | [.ty _], q => exact q.elim
    | [.dic0], q => exact q.elim
    | [.hob _], q => exact q.elim
    | [.exc _ _], q => exact q.elim
    | [], q => exact q.elim
    | _ :: _ :: _, q => exact q.elim)⟩
end
end PV
set_option Elab.async false
set_option linter.all false
set_option maxRecDepth 100000
set_option maxHeartbeats 4000000
namespace PV
open PySem PySem.Spec PyProof.Rows L2 ZL
open Classical in
noncomputable def forL (T : Tg) (b : MS) (o : Option Nat) (all : List D) : List D → Ev → Sto → Out Fl
  | [], ρ, S => if Gd o all S then .ok (.nx ρ) S else .no
  | x :: xs, ρ, S => if Gd o all S then match setT T x ρ with
      | some ρ1 => (b ρ1 S).bind fun f S1 => match f with
        | .nx ρ' => forL T b o all xs ρ' S1
        | .ct ρ' => forL T b o all xs ρ' S1
        | .bk ρ' => .ok (.nx ρ') S1
        | .rt d => .ok (.rt d) S1
      | none => .no
    else .no
noncomputable def sFor (T : Tg) (i : MI) (b : MS) : MS := fun ρ S => (i ρ S).bind fun p S1 => forL T b p.2 p.1 p.1 ρ S1
theorem drop_cons {α : Type} {xs : List α} {i : Nat} {x : α} (h : xs[i]? = some x) : xs.drop i = x :: xs.drop (i + 1) := by
  obtain ⟨h1, h2⟩ := List.getElem?_eq_some_iff.mp h
  rw [List.drop_eq_getElem_cons h1, h2]
theorem qs_for {X : Cx} {tg iter : Expr} {body : List Stmt} {T : Tg} {mi : MI} {mb : MS} {pos : Pos} (hp : PassesOwn (model X.prog X.w) X.A X.env X.xe) (hc : X.calm = true) (hi : QI X tg iter mi) (hg : QG X tg T) (hb : QSs X body mb)
    (hs : ∀ x, foldedSetIterable iter X.env x = pure x := by intro _; rfl) : QS X (.For tg iter body [] pos) (sFor T mi mb) := qs_of (ps_for hp hc hi hg hb hs) fun ρ0 S0 G0 σ0 H0 D sm0 re0 h => by
  classical
  refine ⟨ρ0, S0, G0, sm0, re0, (satS.bind (R := fun G' a (J : It) => WalkD X.K G' a.1 a.2 J) h).imp fun J H1 w => ?_⟩
  obtain ⟨⟨xs, o⟩, S1, G1, le1, sm1, wd, q1⟩ := w
  refine ⟨fun i m σ H => m = xs.length - i ∧ i ≤ xs.length ∧ ∃ ρ S G', G1.le G' ∧ Sm X.K G' S H ∧ Re X.K G' ρ σ ∧ satS X G' H (forL T mb o xs (xs.drop i) ρ S) D,
    ⟨xs.length, rfl, Nat.zero_le _, ρ0, S1, G1, .refl, sm1, re0.mono le1.le, q1⟩, ?_⟩
  rintro i m σ H ⟨rfl, hi', ρ, S, G', le, sm, re, q⟩
  by_cases hlt : i < xs.length
  · obtain ⟨x, hx⟩ : ∃ x, xs[i]? = some x := ⟨_, List.getElem?_eq_getElem hlt⟩
    rw [drop_cons hx] at q
    unfold forL at q
    split at q
    · rename_i gd
      refine .inr ⟨wd.goes i G' S H le sm gd hlt, fun σ' H' => ∃ ρ' S' G'', G1.le G'' ∧ Sm X.K G'' S' H' ∧ Re X.K G'' ρ' σ' ∧ satS X G'' H' (forL T mb o xs (xs.drop (i + 1)) ρ' S') D, fun σ' H' z => ⟨xs.length - (i + 1), by omega, rfl, hlt, z⟩, fun v H' y => ?_⟩
      obtain ⟨G'', st, sm', rv⟩ := wd.yields i G' S H v H' x le sm gd hx y
      split at q
      · rename_i ρ1 hset
        refine ⟨x, ρ, ρ1, G'', sm'.fr, re.mono st.le, rv, hset, fun σ2 re2 _ => ⟨ρ1, S, G'', sm', re2, ?_⟩⟩
        have q2 := q.mono st
        clear q
        match mb ρ1 S, q2 with
        | .ok (.nx ρ') S', q2 => exact fun G3 H3 σ3 st3 sm3 re3 => ⟨ρ', S', G3, le.trans (st.le.trans st3.le), sm3, re3, q2.mono st3⟩
        | .ok (.ct ρ') S', q2 => exact fun G3 H3 σ3 st3 sm3 re3 => ⟨ρ', S', G3, le.trans (st.le.trans st3.le), sm3, re3, q2.mono st3⟩
        | .ok (.bk ρ') S', q2 => exact q2
        | .ok (.rt d) S', q2 => exact q2
        | .ex _ _ _, q2 => exact q2
        | .no, q2 => exact q2
      · exact q.elim
    · exact q.elim
  · have e : i = xs.length := by omega
    subst e
    rw [List.drop_length] at q
    unfold forL at q
    split at q
    · rename_i gd
      exact .inl ⟨wd.stops G' S H le sm gd, q G' H σ .refl sm re⟩
    · exact q.elim
def wipeD (ρ : Ev) : List Nat → Ev
  | [] => ρ
  | v :: vs => (wipeD ρ vs).set v none
theorem Re.wipe {K : PySem.W.Frag} {G : Gh} {ρ : Ev} {σ : L2.St} (h : Re K G ρ σ) : ∀ vs : List Nat, Re K G (wipeD ρ vs) (L2.wipe σ vs)
  | [] => h
  | v :: vs => (Re.wipe h vs).forget v none
def tYs : MT := fun _ S => .ok true S
open Classical in
noncomputable def lcL (T : Tg) (t : MT) (e : ME) (o : Option Nat) (all : List D) (ρ : Ev) : List D → Sto → Out (List D)
  | [], S => if Gd o all S then .ok [] S else .no
  | x :: xs, S => if Gd o all S then match setT T x ρ with
      | some ρ1 => match t ρ1 S with
        | .ok true S1 => match e ρ1 S1 with
          | .ok d S2 => match lcL T t e o all ρ xs S2 with
            | .ok ds S3 => .ok (d :: ds) S3
            | _ => .no
          | _ => .no
        | .ok false S1 => lcL T t e o all ρ xs S1
        | _ => .no
      | none => .no
    else .no
noncomputable def lcO (T : Tg) (i : MI) (t : MT) (e : ME) : MA := fun ρ S => (i ρ S).bind fun p S1 => if p.1.length ≤ 1000 then lcL T t e p.2 p.1 (wipeD ρ T.slots) p.1 S1 else .no
noncomputable def lcE (T : Tg) (i : MI) (t : MT) (e : ME) : ME := fun ρ S => (lcO T i t e ρ S).bind fun ds S1 => .ok (.lst ds) S1
def satN {α β : Type} (K : PySem.W.Frag) (R : Gh → α → β → Prop) (G : Gh) (H : Hp) (o : Out α) (Q : β → Hp → Prop) : Prop := match o with
  | .ok a S' => ∀ G' H' b, Stp G H G' H' → Sm K G' S' H' → R G' a b → Q b H'
  | _ => False
theorem satN.sat {α β : Type} {X : Cx} {R : Gh → α → β → Prop} {G : Gh} {H : Hp} {o : Out α} {Q : β → Hp → Prop} (h : satN X.K R G H o Q) : sat X R G H o Q := by
  match o, h with
  | .ok _ _, h => exact h
def tEn (K : PySem.W.Frag) (m : ME) : TE := fun σ H Q => ∃ ρ S G, Sm K G S H ∧ Re K G ρ σ ∧ satN K (Rp K) G H (m ρ S) Q
def tTn (K : PySem.W.Frag) (m : MT) : TT := fun σ H Q => ∃ ρ S G, Sm K G S H ∧ Re K G ρ σ ∧ satN K (fun _ a b => a = b) G H (m ρ S) Q
theorem QE.n {X : Cx} {e : Expr} {m : ME} (h : QE X e m) : PE X e (tEn X.K m) := ⟨fun pins s σ H Q I ⟨ρ, S, G, sm, re, q⟩ => h.run pins s σ H Q I ⟨ρ, S, G, sm, re, q.sat⟩⟩
theorem QT.n {X : Cx} {e : Expr} {m : MT} (h : QT X e m) : PT X e (tTn X.K m) := ⟨fun pins s σ H Q I ⟨ρ, S, G, sm, re, q⟩ => h.run pins s σ H Q I ⟨ρ, S, G, sm, re, q.sat⟩⟩
theorem pts_yes {X : Cx} : PTs X [] (tTn X.K tYs) := ⟨fun pins s σ H Q I ⟨ρ, S, G, sm, re, q⟩ => pts_nil.run pins s σ H Q I (q G H true .refl sm rfl)⟩
theorem lc_rd {X : Cx} {T : Tg} {mi : MI} {mt : MT} {me : ME} {K : PySem.W.Frag} (hK : X.K = K) {ρ0 : Ev} {S0 : Sto} {G0 : Gh} {σ0 : L2.St} {H0 : Hp} {Q : VK} {fz : Bool} (sm0 : Sm X.K G0 S0 H0) (re0 : Re X.K G0 ρ0 σ0)
    (h : sat X (Rp X.K) G0 H0 ((lcO T mi mt me ρ0 S0).bind fun ds S1 => if fz = true then .ok (.lst ds) S1 else .ok (.loc S1.length) (S1 ++ [.lst ds])) Q) :
    tLc (tI X mi) (fun v σ H Q => ∃ d ρ ρ' G, (∀ a o, G.F a = some o → H a = some o) ∧ Re K G ρ σ ∧ Rp K G d v ∧ setT T d ρ = some ρ' ∧ ∀ σ', Re K G ρ' σ' → (∀ vs, (∀ i ∈ T.slots, i ∈ vs) → wipe σ' vs = wipe σ vs) → Q σ' H) (tTn K mt) (tEn K me) T.slots σ0 H0 Q := by
  classical
  subst hK
  have h' : sat X (Rp X.K) G0 H0 ((mi ρ0 S0).bind fun p S1 => (if p.1.length ≤ 1000 then lcL T mt me p.2 p.1 (wipeD ρ0 T.slots) p.1 S1 else .no).bind fun ds S1 => if fz = true then .ok (.lst ds) S1 else .ok (.loc S1.length) (S1 ++ [.lst ds])) Q := by
    have e : ∀ (o : Out (List D × Option Nat)) (f : List D × Option Nat → Sto → Out (List D)) (g : List D → Sto → Out D), (o.bind f).bind g = o.bind fun p S => (f p S).bind g := fun o f g => by cases o <;> rfl
    have h2 := h
    unfold lcO at h2
    rw [e] at h2
    exact h2
  refine ⟨ρ0, S0, G0, sm0, re0, (sat.bind (R := fun G' a (J : It) => WalkD X.K G' a.1 a.2 J) h').imp fun J H1 w => ?_⟩
  obtain ⟨⟨xs, o⟩, S1, G1, st1, sm1, wd, q1⟩ := w
  intro p hp
  have q1' : sat X (Rp X.K) G1 H1 ((if xs.length ≤ 1000 then lcL T mt me o xs (wipeD ρ0 T.slots) xs S1 else .no).bind fun ds S1 => if fz = true then .ok (.lst ds) S1 else .ok (.loc S1.length) (S1 ++ [.lst ds])) Q := q1
  by_cases hlen : xs.length ≤ 1000
  · rw [if_pos hlen] at q1'
    have re1 := (re0.mono st1.le).wipe T.slots
    refine ⟨fun i m H => m = xs.length - i ∧ i ≤ xs.length ∧ ∃ S G' acc vs, Stp G1 H1 G' H ∧ Sm X.K G' S H ∧ H p = some (.lst vs) ∧ G'.F p = none ∧ (∀ n, G'.f n ≠ some p) ∧ Rps X.K G' acc vs ∧ acc.length ≤ i ∧
      sat X (Rp X.K) G1 H1 ((match lcL T mt me o xs (wipeD ρ0 T.slots) (xs.drop i) S with | .ok ds S3 => .ok (acc ++ ds) S3 | _ => .no : Out (List D)).bind fun ds S1 => if fz = true then .ok (.lst ds) S1 else .ok (.loc S1.length) (S1 ++ [.lst ds])) Q,
      ⟨xs.length, rfl, Nat.zero_le _, S1, G1, [], [], Stp.refl.at hp, sm1.other (sm1.free hp) (fun n e => by obtain ⟨u, hu, _⟩ := sm1.dn n p e; rw [hp] at hu; cases hu) (fun u hu => by rw [hp] at hu; cases hu), upd_same, sm1.free hp, (fun n e => by obtain ⟨u, hu, _⟩ := sm1.dn n p e; rw [hp] at hu; cases hu), .nil, Nat.le_refl _, ?_⟩, ?_⟩
    · rw [List.drop_zero]
      match hl : lcL T mt me o xs (wipeD ρ0 T.slots) xs S1, q1' with
      | .ok ds S3, q => exact q
      | .ex _ _ _, q =>
        exfalso
        have never : ∀ (ys : List D) (S : Sto) c fs S', lcL T mt me o xs (wipeD ρ0 T.slots) ys S ≠ .ex c fs S' := by
          intro ys
          induction ys with
          | nil => intro S c fs S'; unfold lcL; split <;> simp
          | cons y ys ih =>
            intro S c fs S'
            unfold lcL
            split
            · split
              · split
                · split
                  · split <;> simp
                  · simp
                · exact ih _ _ _ _
                · simp
              · simp
            · simp
        exact never _ _ _ _ _ hl
      | .no, q => exact q.elim
    rintro i m H ⟨rfl, hi, S, G', acc, vs, st, sm, hH, hF, hn, ra, hacc, q⟩
    by_cases hlt : i < xs.length
    · obtain ⟨x, hx⟩ : ∃ x, xs[i]? = some x := ⟨_, List.getElem?_eq_getElem hlt⟩
      rw [drop_cons hx] at q
      unfold lcL at q
      split at q
      rotate_left
      · exact q.elim
      rename_i ds' S3' hl
      split at hl
      · rename_i gd
        refine .inr ⟨wd.goes i G' S H st.le sm gd hlt, fun H' => ∃ S G' acc vs, Stp G1 H1 G' H' ∧ Sm X.K G' S H' ∧ H' p = some (.lst vs) ∧ G'.F p = none ∧ (∀ n, G'.f n ≠ some p) ∧ Rps X.K G' acc vs ∧ acc.length ≤ i + 1 ∧
          sat X (Rp X.K) G1 H1 ((match lcL T mt me o xs (wipeD ρ0 T.slots) (xs.drop (i + 1)) S with | .ok ds S3 => .ok (acc ++ ds) S3 | _ => .no : Out (List D)).bind fun ds S1 => if fz = true then .ok (.lst ds) S1 else .ok (.loc S1.length) (S1 ++ [.lst ds])) Q, fun H' z => ⟨xs.length - (i + 1), by omega, rfl, hlt, z⟩, fun v H' y => ?_⟩
        obtain ⟨G2, st2, sm2, rv⟩ := wd.yields i G' S H v H' x st.le sm gd hx y
        split at hl
        · rename_i ρ1 hset
          refine ⟨x, wipeD ρ0 T.slots, ρ1, G2, sm2.fr, (re1.mono st.le).mono st2.le, rv, hset, fun σ2 re2 hw => ⟨?_, ?_⟩⟩
          · rw [hw T.slots fun _ z => z]
            have idem : ∀ (us vs : List Nat), (∀ i ∈ us, i ∈ vs) → wipe (wipe σ0 us) vs = wipe σ0 vs := by
              intro us
              induction us with
              | nil => intro vs _; rfl
              | cons u us ih =>
                intro vs hv
                show wipe ((wipe σ0 us).set u none) vs = _
                rw [wipe_set (hv u List.mem_cons_self)]
                exact ih vs fun k hk => hv k (List.mem_cons_of_mem _ hk)
            exact idem _ _ fun _ z => z
          · refine ⟨ρ1, S, G2, sm2, re2, ?_⟩
            have hp2 : H' p = some (.lst vs) := st2.frm p _ hH (fun _ z => by cases z) hn
            have keep : ∀ {G3 : Gh} {H3 : Hp}, Stp G2 H' G3 H3 → H3 p = some (.lst vs) ∧ G3.F p = none ∧ ∀ n, G3.f n ≠ some p := fun {G3 H3} s3 => by
              have s := st2.trans s3
              refine ⟨s.frm p _ hH (fun _ z => by cases z) hn, ?_, fun n e => ?_⟩
              · cases e : G3.F p with
                | none => rfl
                | some u =>
                  rcases s.fro p u e with z | z | ⟨n, z⟩
                  · rw [hF] at z; cases z
                  · exact (fr0_not z hH (fun _ z => by cases z)).elim
                  · exact absurd z (hn n)
              · rcases s.new n p e with z | z
                · exact hn n z
                · exact fr0_not z hH (fun _ z => by cases z)
            split at hl
            · rename_i S4 ht
              rw [ht]
              intro G3 H3 b s3 sm3 eb
              subst eb
              refine ⟨ρ1, S4, G3, sm3, re2.mono s3.le, ?_⟩
              split at hl
              · rename_i d S5 he
                rw [he]
                intro G4 H4 w s4 sm4 rw4
                obtain ⟨k1, k2, k3⟩ := keep (s3.trans s4)
                refine ⟨vs, k1, ?_, S5, G4, acc ++ [d], vs ++ [w], ((st.trans st2).trans (s3.trans s4)).at hp, sm4.other k2 k3 (fun u hu => by rw [k1] at hu; cases hu; exact ⟨(fun _ z => by cases z), (fun _ z => by cases z)⟩), upd_same, k2, k3, ?_, ?_, ?_⟩
                · rw [ra.length, sizeLine_eq]; omega
                · exact (((ra.mono st2.le).mono s3.le).mono s4.le).append (.cons rw4 .nil)
                · simp; omega
                · split at hl
                  · rename_i ds2 S6 hl2
                    cases hl
                    have e2 : acc ++ [d] ++ ds2 = acc ++ d :: ds2 := by simp
                    simp only [e2]
                    exact q
                  · cases hl
              · cases hl
            · rename_i S4 ht
              rw [ht]
              intro G3 H3 b s3 sm3 eb
              subst eb
              obtain ⟨k1, k2, k3⟩ := keep s3
              refine ⟨S4, G3, acc, vs, (st.trans st2).trans s3, sm3, k1, k2, k3, (ra.mono st2.le).mono s3.le, by omega, ?_⟩
              rw [hl]
              exact q
            · cases hl
        · cases hl
      · cases hl
    · have e : i = xs.length := by omega
      subst e
      rw [List.drop_length] at q
      unfold lcL at q
      by_cases gd : Gd o xs S
      · rw [if_pos gd] at q
        refine .inl ⟨wd.stops G' S H st.le sm gd, ?_⟩
        have q2 : sat X (Rp X.K) G1 H1 (if fz = true then .ok (.lst (acc ++ [])) S else .ok (.loc S.length) (S ++ [.lst (acc ++ [])])) Q := q
        rw [List.append_nil] at q2
        cases fz with
        | true =>
          have q3 : sat X (Rp X.K) G1 H1 (.ok (.lst acc) S) Q := q2
          exact q3 (G'.put p (.lst vs)) H _ (st.add hp hF) (sm.tell hH hn) (.lst upd_same (ra.mono (Gh.put_le hF)))
        | false =>
          have q3 : sat X (Rp X.K) G1 H1 (.ok (.loc S.length) (S ++ [.lst acc])) Q := q2
          have hnl : G'.le (G'.new S.length p) := sm.new_le
          refine q3 (G'.new S.length p) H _ ⟨st.le.trans hnl, st.dom, st.frm, fun n a h => ?_, st.fro⟩ ?_ (.loc Gh.new_at)
          · have h' : (if n = S.length then some p else G'.f n) = some a := h
            by_cases z : n = S.length
            · rw [if_pos z] at h'
              cases h'
              exact .inr (fr0_none hp)
            · rw [if_neg z] at h'
              exact st.new n a h'
          · exact sm.adopt hH hF hn ⟨vs, hH, ra.mono hnl⟩
      · rw [if_neg gd] at q
        exact q.elim
  · rw [if_neg hlen] at q1'
    exact q1'.elim
end PV
set_option Elab.async false
set_option linter.all false
set_option maxRecDepth 100000
set_option maxHeartbeats 4000000
namespace PV
open PySem PySem.Spec PyProof.Rows L2 ZL
section
variable {X : Cx} {elt tg iter : Expr} {ifs : List Expr} {scope : Scope} {own : List (Str × Nat)} {pos : Pos} {mi : MI} {T : Tg} {mt : MT} {me : ME}
theorem qe_lc (T : Tg) (hown : own.map (·.2) = T.slots) (hc : X.calm = true) (hN : X.N.Nodup) (hi : QI X tg iter mi) (ok : BlkOk X.N X.env.scope scope own)
    (hg : ∀ (s : Shared) (H : Hp) (C : Addr) (cl : List (Str × Addr)) (fp : List Addr), QG (X.blk s H scope (compEnvC scope cl C X.env) fp) tg T)
    (ht : ∀ (s : Shared) (H : Hp) (C : Addr) (cl : List (Str × Addr)) (fp : List Addr), PTs (X.blk s H scope (compEnvC scope cl C X.env) fp) ifs (tTn X.K mt))
    (he : ∀ (s : Shared) (H : Hp) (C : Addr) (cl : List (Str × Addr)) (fp : List Addr), QE (X.blk s H scope (compEnvC scope cl C X.env) fp) elt me) (hs : ∀ x, foldedSetIterable iter X.env x = pure x := by intro _; rfl) :
    QE X (.ListComp elt [⟨tg, iter, ifs, 0⟩] scope pos) (lcE T mi mt me) :=
  qe_of (pe_lc hc hN hi ok hg ht (fun s H C cl fp => (he s H C cl fp).n) hs) fun ρ S G σ H Q sm re h => by
    rw [hown]
    exact lc_rd (fz := true) rfl sm re h
end
def sAsg (T : Tg) (m : ME) : MS := fun ρ S => (m ρ S).bind fun d S1 => match setT T d ρ with
  | some ρ' => .ok (.nx ρ') S1
  | none => .no
def sPar (i j : Nat) (ms : MA) : MS := fun ρ S => (ms ρ S).bind fun ds S1 => match ds with
  | [d, e] => .ok (.nx ((ρ.set i (some d)).set j (some e))) S1
  | _ => .no
def sSub (o i m : ME) : MS := fun ρ S => (m ρ S).bind fun y S1 => (o ρ S1).bind fun x S2 => (i ρ S2).bind fun k S3 => match x, k with
  | .loc n, .int k => match S3[n]? with
    | some (.lst xs) => match ixN xs.length k with
      | some j => .ok (.nx ρ) (S3.set n (.lst (xs.set j y)))
      | none => .no
    | _ => .no
  | _, _ => .no
section
variable {X : Cx} {e tg : Expr} {m : ME} {pos : Pos}
theorem qs_asg {T : Tg} (h : QE X e m) (hg : QG X tg T) (hs : swapsWithSole [tg] e pos.line X.env = pure false := by rfl) (hw : swappedStores [tg] e X.env = pure none := by rfl)
    (h1 : (assignEach [tg] X.env).map (·.2) = [assign tg X.env] := by rfl) : QS X (.Assign [tg] e pos) (sAsg T m) := qs_of (ps_asg h hg hs hw h1) fun ρ S G σ H D sm re z => by
  refine ⟨ρ, S, G, sm, re, (satS.bind z).imp fun x H1 w => ?_⟩
  obtain ⟨d, S1, G1, le1, sm1, r1, q1⟩ := w
  match hs : setT T d ρ, q1 with
  | some ρ', q1 =>
    refine ⟨d, ρ, ρ', G1, sm1.fr, re.mono le1.le, r1, hs, fun σ' re' _ => ?_⟩
    exact q1 G1 H1 σ' .refl sm1 re'
  | none, q1 => exact q1.elim
theorem qs_par (i j : Nat) {x y : Str} {a b : Expr} {ms : MA} {px py pt : Pos} {kt k2 pt2} (hc : X.calm = true) (ha : QA X [a, b] ms) (hN : X.N.Nodup) (hi : X.N[i]? = some x := by rfl) (hj : X.N[j]? = some y := by rfl) (hij : i ≠ j := by decide)
    (hx : X.env.scope.names.lookup x = some .local := by rfl) (hy : X.env.scope.names.lookup y = some .local := by rfl)
    (hw : swappedStores [.Tuple [.Name x px, .Name y py] kt pt] (.Tuple [a, b] k2 pt2) X.env = pure (some [x, y]) := by rfl)
    (hs : swapsWithSole [.Tuple [.Name x px, .Name y py] kt pt] (.Tuple [a, b] k2 pt2) pos.line X.env = pure false := by rfl) :
    QS X (.Assign [.Tuple [.Name x px, .Name y py] kt pt] (.Tuple [a, b] k2 pt2) pos) (sPar i j ms) := qs_of (ps_par hc hN hi hj hij hx hy ha hw hs) fun ρ S G σ H D sm re z => by
  refine ⟨ρ, S, G, sm, re, (satS.bind z).imp fun vs H1 w => ?_⟩
  obtain ⟨ds, S1, G1, le1, sm1, r1, q1⟩ := w
  match ds, r1, q1 with
  | [d, e], r1, q1 =>
    obtain ⟨v, w, rfl, rv, rw'⟩ := vals2' r1
    exact ⟨v, w, rfl, q1 G1 H1 _ .refl sm1 (((re.mono le1.le).set i rv).set j rw')⟩
  | [], _, q1 => exact q1.elim
  | [_], _, q1 => exact q1.elim
  | _ :: _ :: _ :: _, _, q1 => exact q1.elim
theorem qs_sub {o i : Expr} {mo mi : ME} {p : Pos} (ho : QE X o mo) (hi : QE X i mi) (h : QE X e m)
    (ha : ∀ v, assign (.Subscript o i p) X.env v = (do
      let ov ← holding [v] (eval o X.env)
      let iv ← holding [v, ov] (eval i X.env)
      standAt p
      holding [v, ov, iv] (setItem ov iv v)
      release [v, ov, iv] []) := by intro _; rfl)
    (hs : swapsWithSole [.Subscript o i p] e pos.line X.env = pure false := by rfl) (hw : swappedStores [.Subscript o i p] e X.env = pure none := by rfl)
    (h1 : (assignEach [.Subscript o i p] X.env).map (·.2) = [assign (.Subscript o i p) X.env] := by rfl) : QS X (.Assign [.Subscript o i p] e pos) (sSub mo mi m) := qs_of (ps_asg h (pg_sub ho hi set_list ha) hs hw h1) fun ρ S G σ H D sm re z => by
  refine ⟨ρ, S, G, sm, re, (satS.bind z).imp fun v H1 w => ?_⟩
  obtain ⟨y, S1, G1, le1, sm1, r1, q1⟩ := w
  refine ⟨ρ, S1, G1, sm1, re.mono le1.le, (satS.bind q1).imp fun v2 H2 w => ?_⟩
  obtain ⟨x, S2, G2, le2, sm2, r2, q2⟩ := w
  refine ⟨ρ, S2, G2, sm2, (re.mono le1.le).mono le2.le, (satS.bind q2).imp fun v3 H3 w => ?_⟩
  obtain ⟨k, S3, G3, le3, sm3, r3, q3⟩ := w
  split at q3
  · cases r3
    split at q3
    · rename_i xs hl
      split at q3
      · rename_i j hj
        obtain ⟨a, vs, rfl, hf, ha', rr⟩ := sm3.list hl (r2.mono le3.le)
        refine ⟨a, vs, _, j, rfl, rfl, ha', by rw [rr.length]; exact hj, ?_⟩
        exact q3 G3 _ σ (Stp.write hf) (sm3.write hl (by simp) hf ⟨_, upd_same, rr.set j ((r1.mono le2.le).mono le3.le)⟩) (((re.mono le1.le).mono le2.le).mono le3.le)
      · exact q3.elim
    · exact q3.elim
  · exact q3.elim
end
def appG (x : D) (ds : List D) (S : Sto) : Out D := match x, ds with
  | .loc n, [y] => match S[n]? with
    | some (.lst xs) => if xs.length ≤ 1000 then .ok .non (S.set n (.lst (xs ++ [y]))) else .no
    | _ => .no
  | _, _ => .no
def mth (g : D → List D → Sto → Out D) (o : ME) (ms : MA) : ME := fun ρ S => (o ρ S).bind fun x S1 => (ms ρ S1).bind fun ds S2 => g x ds S2
section
variable {X : Cx} {o e : Expr} {es : List Expr} {mo : ME} {ms : MA} {apos cpos : Pos}
def MtF (X : Cx) (id : String) (g : D → List D → Sto → Out D) : Prop := MtR X id (fun v vs H Q => ∃ x ds S G, Sm X.K G S H ∧ Rp X.K G x v ∧ Rps X.K G ds vs ∧ sat X (Rp X.K) G H (g x ds S) Q)
theorem mf_append : MtF X "list.append" appG := fun pins s σ H v vs u us Q I rv rs ⟨x, ds, S, G, sm, rx, rd, h⟩ => by
  unfold appG at h
  split at h
  · split at h
    · rename_i n y xs hl
      split at h
      · rename_i hz
        obtain ⟨a, ws, rfl, hf, ha, rr⟩ := sm.list hl rx
        obtain ⟨z, rfl, rz⟩ := vals1 rd
        refine mt_append pins s σ H _ _ u us Q I rv rs ⟨a, ws, z, rfl, rfl, ha, by rw [rr.length, sizeLine_eq]; omega, ?_⟩
        exact h G _ _ (Stp.write hf) (sm.write hl (by simp) hf ⟨_, upd_same, rr.append (.cons rz .nil)⟩) .non
      · exact h.elim
    · exact h.elim
  · exact h.elim
def isLoc (S : Sto) : D → Bool
  | .loc n => match S[n]? with
    | some (.lst _) => true
    | _ => false
  | _ => false
def mthL (g : D → List D → Sto → Out D) (o : ME) (ms : MA) : ME := fun ρ S => (o ρ S).bind fun x S1 => if isLoc S1 x = true then (ms ρ S1).bind fun ds S2 => g x ds S2 else .no
theorem qe_mthL {id : String} {name : Str} {g : D → List D → Sto → Out D} (slot : Slot "list" name id) (hty : typeOf (.builtin id) = pure (.type "method_descriptor")) (hm : MtF X id g) (ho : QE X o mo) (ha : QA X (e :: es) ms)
    (hbase : attributeBase o name X.env (eval o X.env) = eval o X.env := by rfl)
    (hfew : ((backTo cpos (starEach (e :: es) X.env)).all (fun x => !x.1) && (backToKw cpos (keywordEach [] X.env)).all (fun x => x.1.isSome) && decide ((e :: es).length + ([] : List Keyword).length + (if ([] : List Keyword).isEmpty then 0 else 1) < 30)) = true := by rfl)
    (hline : (apos.endLine == cpos.line) = true := by rfl) (hs : starEach (e :: es) X.env = (false, eval e X.env) :: starEach es X.env := by rfl) (hplain : (backTo cpos (starEach es X.env)).any (·.1) = false := by rfl) :
    QE X (.Call (.Attribute o name apos) (e :: es) [] cpos) (mthL g mo ms) := qe_of (pe_bm PySem.F.plainAttrs_list slot hty hm ho ha hbase hfew hline hs hplain) fun ρ S G σ H Q sm re h => by
  refine ⟨ρ, S, G, sm, re, (sat.bind h).imp fun v H1 w => ?_⟩
  obtain ⟨x, S1, G1, le1, sm1, r1, q1⟩ := w
  split at q1
  · rename_i hl
    match x, hl with
    | .loc n, hl =>
      have hl : (match S1[n]? with | some (.lst _) => true | _ => false) = true := hl
      match hn : S1[n]?, hl with
      | some (.lst xs), hl =>
        obtain ⟨a, vs, rfl, hf, ha', rr⟩ := sm1.list hn r1
        refine ⟨.inl ⟨rfl, _, SqL.of ha'⟩, ρ, S1, G1, sm1, re.mono le1.le, (sat.bind q1).imp fun us H2 w => ?_⟩
        obtain ⟨ds, S2, G2, le2, sm2, r2, q2⟩ := w
        exact ⟨.loc n, ds, S2, G2, sm2, r1.mono le2.le, r2, q2⟩
      | some (.ins _ _), hl => simp [hn] at hl
      | some .dead, hl => simp [hn] at hl
      | none, hl => simp [hn] at hl
  · exact q1.elim
end
def isStr : D → Bool
  | .str _ => true
  | _ => false
def mthS (g : D → D → Sto → Out D) (o m : ME) : ME := fun ρ S => (o ρ S).bind fun x S1 => if isStr x = true then (m ρ S1).bind fun y S2 => g x y S2 else .no
theorem Rps.ints {K : PySem.W.Frag} {G : Gh} : ∀ ys : List Int, Rps K G (ys.map .int) (ys.map V.int)
  | [] => .nil
  | y :: ys => .cons (.int y) (Rps.ints ys)
section
variable {X : Cx} {o e : Expr} {mo m : ME} {apos pos : Pos}
end
def sAug (i : Nat) (g : G2) (m : ME) : MS := fun ρ S => match ρ[i]? with
  | some (some x) => (m ρ S).bind fun y S1 => (g x y S1).bind fun z S2 => .ok (.nx (ρ.set i (some z))) S2
  | _ => .no
section
variable {X : Cx} {e : Expr} {m : ME} {pos : Pos}
def addI : G2 := fun x y S => match x, y with
  | .int i, .int j => .ok (.int (i + j)) S
  | _, _ => .no
end
end PV
set_option Elab.async false
set_option linter.all false
set_option maxRecDepth 100000
set_option maxHeartbeats 4000000
namespace PV
open PySem PySem.Spec PyProof.Rows L2 ZL
abbrev gaS (K : PySem.W.Frag) (c : String) : Addr := He.ga K (Str.ofString c)
theorem spO.mono {K : PySem.W.Frag} {G G1 : Gh} {H H1 : Hp} {o : Out D} {Q : VK} {E : XK} (h : spO K G H o Q E) (st : Stp G H G1 H1) : spO K G1 H1 o Q E := by
  match o, h with
  | .ok _ _, h => exact fun G' H' v s => h G' H' v (st.trans s)
  | .ex _ _ _, h => exact fun cls dd H' w => h cls dd H' (w.anti st)
  | .no, h => exact h
theorem spO.imp {K : PySem.W.Frag} {G : Gh} {H : Hp} {o : Out D} {Q Q' : VK} {E : XK} (h : spO K G H o Q E) (i : ∀ v H', Q v H' → Q' v H') : spO K G H o Q' E := by
  match o, h with
  | .ok _ _, h => exact fun G' H' v s m r => i _ _ (h G' H' v s m r)
  | .ex _ _ _, h => exact h
  | .no, h => exact h
noncomputable def dfnV (np n : Nat) (b : MS) : Fn := fun ds S => if np ≤ ds.length ∧ ds.length ≤ 1000 then dfn (np + 1) n b (ds.take np ++ [.tup (ds.drop np)]) S else .no
section
variable {P : Program} {w : World} {K : PySem.W.Frag} {mg : Str → Option Value} {base : Heap} {x qual : Str} {st : Stmt} {kws : List (Str × V)} {f : Addr} {fd : FuncData} {N ps : List Str} {j : Nat} {b : MS}
theorem okFV {np n : Nat} {pv : Str} (F : FunD K x qual (defArgs st) (defBody st) (defScope st) [] kws f fd) (S : FnScope N (ps ++ [pv]) (defScope st)) (hn : ps.length = np) (hN : N.length = n)
    (hb : ∀ (kV doc pm : Value) (an : Option Addr) (cdv ct : Value) (us rest : List Value), us.length = ps.length → bindArgs (PySem.W.fnOf x qual (defArgs st) (defBody st) (defScope st) .none kV doc pm an cdv ct) ⟨us ++ rest, []⟩ = (newTuple rest >>= fun t => pure (ps.zip us ++ [(pv, t)])))
    (hbody : ∀ (cdv : Value) (A : Around) (outer : List Env) (s : Shared) (H : Hp) (E : XK), Room j (A.deeper (envOfC qual (defScope st) s.heap.objs.size f cdv)) →
      QSs (cxOf (L2.CX P w) P w K mg base N qual (defScope st) f cdv A outer s H E) (defBody st) b) : FnF P w K mg base (j + 1) f (dfnV np n b) := by
  obtain ⟨oc, od, dV, kV, doc, pm, an, cdv, ct, osl, e, lk, hcd, hD, -⟩ := F.ex
  have dN : dV = .none := by
    rcases hD with ⟨_, q⟩ | ⟨q, _⟩
    · exact q
    · exact absurd rfl q
  subst dN
  subst e
  have hn1 : (ps ++ [pv]).length = np + 1 := by simp [hn]
  have R := StX.fn_star (P := P) (w := w) (mg := mg) (base := base) (k := j) (sp := spF K (dfn (np + 1) n b)) lk hcd S StX.cxUp (hb kV doc pm an cdv ct) fun A outer s H vs Q E hr h =>
    ⟨_, hbody cdv A outer s H E hr, body_start rfl (takes_of rfl rfl rfl rfl) hn1 hN h⟩
  refine R.imp fun vs H Q E h => ?_
  obtain ⟨ds, S0, G, sm, r, h⟩ := h
  unfold dfnV at h
  by_cases c : np ≤ ds.length ∧ ds.length ≤ 1000
  · rw [if_pos c] at h
    refine ⟨vs.take np, vs.drop np, (List.take_append_drop ..).symm, ?_, ?_, fun p hp => ?_⟩
    · rw [List.length_take, r.length, hn]
      omega
    · rw [List.length_drop, r.length, sizeLine_eq]
      omega
    · have st := Stp.put (o := .tup (vs.drop np)) sm hp
      exact ⟨_, S0, _, sm.put hp, ((r.take np).mono st.le).append (.cons (.tup (SqT.of upd_same) ((r.drop np).mono st.le)) .nil), h.mono st⟩
  · rw [if_neg c] at h
    exact h.elim
end
theorem sat_gc {X : Cx} {G : Gh} {S : Sto} {H : Hp} {o : Out D} {Q : VK} (sm : Sm X.K G S H) (h : sat X (Rp X.K) G H (gcO S o) Q) : sat X (Rp X.K) G H o Q := by
  classical
  match o, h with
  | .ok d S', h =>
    intro G' H' v le sm' r
    by_cases c : d.und S.length = true ∧ Kept S S'
    · have e : gcO S (.ok d S') = .ok d (S'.take S.length) := if_pos c
      rw [e] at h
      exact h _ H' v (sm.cut_le le) (sm.cut sm' c.2) (r.cut c.1)
    · have e : gcO S (.ok d S') = .ok d S' := if_neg c
      rw [e] at h
      exact h G' H' v le sm' r
  | .ex x fs S', h =>
    by_cases c : belowf S.length fs = true ∧ Kept S S'
    · have e : gcO S (.ex x fs S') = .ex x fs (S'.take S.length) := if_pos c
      rw [e] at h
      exact Takes.imp h fun cls dd _ H' w => by
        obtain ⟨G', le, sm', r⟩ := w
        exact ⟨_, sm.cut_le le, sm.cut sm' c.2, r.cut c.1⟩
    · have e : gcO S (.ex x fs S') = .ex x fs S' := if_neg c
      rw [e] at h
      exact h
  | .no, h => exact h
noncomputable def mkF (c : String) (F : Fn) : Fn := fun ds S => match F (.loc S.length :: ds) (S ++ [.ins c []]) with
  | .ok .non S2 => match S2[S.length]? with
    | some (.ins c' fs) => if c' = c then gcO S (.ok (.obj c fs) (S2.set S.length .dead)) else .no
    | _ => .no
  | .ex x fs S2 => gcO S (.ex x fs S2)
  | _ => .no
section
variable {X : Cx} {c : String} {F : Fn}
theorem new_ins {G : Gh} {S : Sto} {H : Hp} {x dx : Addr} (sm : Sm X.K G S H) (hx : H x = none) (hd : H dx = none) (ne : dx ≠ x) :
    Sm X.K (G.new S.length x) (S ++ [.ins c []]) (upd (upd H dx (.own x)) x (.ins (gaS X.K c) dx [])) ∧ Stp G H (G.new S.length x) (upd (upd H dx (.own x)) x (.ins (gaS X.K c) dx [])) := by
  have sm1 := sm.ext (Ext.upd (o := .own x) hd)
  have hx1 : upd H dx (.own x) x = none := by rw [upd_ne (Ne.symm ne)]; exact hx
  exact ⟨sm1.new hx1 ⟨dx, [], upd_same, .nil⟩, (Stp.ext (Ext.upd hd)).trans (Stp.cell sm1 hx1)⟩
theorem mk_rd {G : Gh} {S : Sto} {H : Hp} {ds : List D} {vs : List V} {Q : VK} (sm : Sm X.K G S H) (r : Rps X.K G ds vs) (h : sat X (Rp X.K) G H (mkF c F ds S) Q) (x dx : Addr) (hx : H x = none) (hd : H dx = none) (ne : dx ≠ x) :
    spF X.K F (V.ref x :: vs) (upd (upd H dx (.own x)) x (.ins (gaS X.K c) dx [])) (fun v H2 => v = .non ∧ Q (.ref x) H2) (Est X) := by
  obtain ⟨sm1, st1⟩ := new_ins (c := c) sm hx hd ne
  refine ⟨.loc S.length :: ds, _, _, sm1, .cons (.loc Gh.new_at) (r.mono st1.le), ?_⟩
  unfold mkF at h
  generalize F (.loc S.length :: ds) (S ++ [.ins c []]) = oF at h ⊢
  match oF, h with
  | .ok .non S2, h =>
    intro G2 H2 v st2 sm2 rv
    cases rv
    refine ⟨rfl, ?_⟩
    simp only at h
    split at h
    · rename_i c' fs hl
      split at h
      · rename_i hc
        subst hc
        have hf : G2.f S.length = some x := st2.le.2 _ _ Gh.new_at
        obtain ⟨hF0, dx', ws, ha, rf⟩ := sm2.addr hl (by simp) hf
        have z := sat_gc sm h
        have st3 := (st1.trans st2).trans (Stp.freeze (o := .ins (gaS X.K c') dx' ws) hf hF0)
        exact z _ H2 _ st3 (sm2.freeze hl (by simp) hf ha) (.obj upd_same (rf.mono (Gh.put_le hF0)))
      · exact h.elim
    · exact h.elim
  | .ex y fs S2, h =>
    have z := sat_sp (sat_gc sm h)
    exact fun cls dd H' w => z cls dd H' (w.anti st1)
  | .no, h => exact h.elim
  | .ok (.bl _) _, h => exact h.elim
  | .ok (.int _) _, h => exact h.elim
  | .ok (.str _) _, h => exact h.elim
  | .ok (.tup _) _, h => exact h.elim
  | .ok (.lst _) _, h => exact h.elim
  | .ok (.obj _ _) _, h => exact h.elim
  | .ok (.loc _) _, h => exact h.elim
  | .ok (.cls _) _, h => exact h.elim
  | .ok (.fnc _) _, h => exact h.elim
  | .ok (.ty _) _, h => exact h.elim
  | .ok (.src _) _, h => exact h.elim
  | .ok .dic0 _, h => exact h.elim
  | .ok (.hob _) _, h => exact h.elim
  | .ok (.exc _ _) _, h => exact h.elim
end
section
variable {X : Cx} {c : String} {F : Fn} {j : Nat} {f : Addr} {e e2 : Expr} {es : List Expr} {ms : MA} {m : ME} {p pos sp_ : Pos}
def MkRd (X : Cx) (c : String) (F g : Fn) : Prop := ∀ {G : Gh} {S : Sto} {H : Hp} {ds : List D} {vs : List V} {Q : VK}, Sm X.K G S H → Rps X.K G ds vs → sat X (Rp X.K) G H (g ds S) Q → ∀ (x dx : Addr), H x = none → H dx = none → dx ≠ x →
    spF X.K F (V.ref x :: vs) (upd (upd H dx (.own x)) x (.ins (gaS X.K c) dx [])) (fun v H2 => v = .non ∧ Q (.ref x) H2) (Est X)
theorem mk_frozen : MkRd X c F (mkF c F) := fun sm r h => mk_rd sm r h
theorem qe_mk {g : Fn} (hg : MkRd X c F g) (M : Mk X.K (gaS X.K c) f) (Ff : FnF X.prog X.w X.K X.mg X.base j f F) (hr : Room (j + 1) X.A) (hm : X.mg (Str.ofString c) = some (.ref (gaS X.K c))) (ha : QA X (e :: es) ms) (hgl : Gl X (Str.ofString c) := by rfl) (hdb : (Str.ofString c == ("__debug__" : Str)) = false := by decide)
    (he : starEach (e :: es) X.env = (false, eval e X.env) :: starEach es X.env := by rfl) (hpl : (backTo pos (starEach es X.env)).any (·.1) = false := by rfl) : QE X (.Call (.Name (Str.ofString c) p) (e :: es) [] pos) (cal g ms) :=
  qe_of (StX.pe_makeR M Ff hr hgl hm passE ha hdb he hpl) fun ρ S G σ H Q sm re h => by
    refine ⟨ρ, S, G, sm, re, (sat.bind h).imp fun vs H1 w => ?_⟩
    obtain ⟨ds, S1, G1, le1, sm1, r1, q1⟩ := w
    exact hg sm1 r1 q1
theorem qe_mk0 {g : Fn} (hg : MkRd X c F g) (M : Mk X.K (gaS X.K c) f) (Ff : FnF X.prog X.w X.K X.mg X.base j f F) (hr : Room (j + 1) X.A) (hm : X.mg (Str.ofString c) = some (.ref (gaS X.K c))) (hgl : Gl X (Str.ofString c) := by rfl) (hdb : (Str.ofString c == ("__debug__" : Str)) = false := by decide) :
    QE X (.Call (.Name (Str.ofString c) p) [] [] pos) (cal g aNil) :=
  qe_of (pe_makeR0 M Ff hr hgl hm passE hdb) fun ρ S G σ H Q sm re h => hg sm .nil h
def itemsF (g : Fn) (m : ME) : ME := fun ρ S => (m ρ S).bind fun d S1 => match d with
  | .lst xs => g xs S1
  | .tup xs => g xs S1
  | .loc n => match S1[n]? with
    | some (.lst xs) => g xs S1
    | _ => .no
  | _ => .no
end
def cmE (c : String) (F : Fn) (o : ME) (ms : MA) : ME := fun ρ S => (o ρ S).bind fun x S1 => if isCl c x = true then (ms ρ S1).bind fun ds S2 => F (x :: ds) S2 else .no
section
variable {X : Cx} {c : String} {F : Fn} {j : Nat} {o e : Expr} {es : List Expr} {mo : ME} {ms : MA} {apos pos : Pos} {m : Str} {p g : Addr} {mc : Value} {pl : Sem Bool}
def mtO (τ : List (String × Fn)) (n : String) (o : ME) (ms : MA) : ME := fun ρ S => (o ρ S).bind fun x S1 => match insOf S1 x with
  | some (c, fs) => match τ.lookup c with
    | some F => match fs.lookup n with
      | none => (ms ρ S1).bind fun ds S2 => F (x :: ds) S2
      | some _ => .no
    | none => .no
  | none => .no
def Mths (X : Cx) (j : Nat) (n : String) (τ : List (String × Fn)) : Prop := ∀ c F, τ.lookup c = some F → Cls X.K (gaS X.K c) ∧ ∃ f, Meth X.K (gaS X.K c) (Str.ofString n) f ∧ FnF X.prog X.w X.K X.mg X.base j f F
theorem qe_mt {n : String} {τ : List (String × Fn)} (hτ : Mths X j n τ) (hr : Room j X.A) (ho : QE X o mo) (ha : QA X (e :: es) ms)
    (hst : starEach (e :: es) X.env = (false, eval e X.env) :: starEach es X.env := by rfl) (hpl : (backTo pos (starEach es X.env)).any (·.1) = false := by rfl)
    (ht : eval (.Call (.Attribute o (Str.ofString n) apos) (e :: es) [] pos) X.env = (do
      let ov ← eval o X.env
      standAt apos.atName
      let (f, first) ← holding [ov] (getMethod ov (Str.ofString n) pl)
      callWith pos f first (backTo pos (starEach (e :: es) X.env)) (backToKw pos (keywordEach [] X.env))) := by rfl) :
    QE X (.Call (.Attribute o (Str.ofString n) apos) (e :: es) [] pos) (mtO τ n mo ms) := by
  refine ⟨fun pins s σ H Q I z => ?_⟩
  obtain ⟨ρ, S, G, sm, re, h⟩ := z
  refine PySem.W.methodCall_KW (pl := pl) (thn (ho.run pins s σ H _ I ⟨ρ, S, G, sm, re, sat.bind h⟩) fun u s1 k => ?_) ht
  obtain ⟨v, H1, I1, rv, x, S1, G1, le1, sm1, r1, q1⟩ := k
  split at q1
  · rename_i c fs hi
    split at q1
    · rename_i F hF
      split at q1
      · rename_i hl
        obtain ⟨a, dx, ws, rfl, hA, rf⟩ := sm1.ins hi r1
        obtain ⟨hcl, f, hmt, Ff⟩ := hτ c F hF
        obtain rfl : u = Value.ref a := rv
        refine getmeth_ok I1 hA hcl hmt (rf.gone hl) ?_
        refine PySem.W.callWith_K (first := [.ref a]) (h₀ := X.base) I.ok.mod.kin hmt.kp (thn (ha.run pos pins s1 σ H1 _ I1 ⟨ρ, S1, G1, sm1, re.mono le1.le, sat.bind q1⟩) fun us s2 w => ?_) hst hpl
        obtain ⟨vs, H2, I2, rs, ds, S2, G2, le2, sm2, r2, q2⟩ := w
        refine ⟨I2.kIn, wpAny_call (run_fnR (us := .ref a :: us) (vs := .ref a :: vs) Ff hr passE I2 (.cons rfl rs) ?_)⟩
        exact ⟨x :: ds, S2, G2, sm2, .cons (r1.mono le2.le) r2, sat_sp q2⟩
      · exact q1.elim
    · exact q1.elim
  · exact q1.elim
end
end PV
set_option Elab.async false
set_option linter.all false
set_option maxRecDepth 100000
set_option maxHeartbeats 4000000
namespace PV
open PySem PySem.Spec PyProof.Rows L2 ZL
def aStar (m : ME) (ms : MA) : MA := fun ρ S => (m ρ S).bind fun d S1 => match d with
  | .lst xs => (ms ρ S1).bind fun ds S2 => .ok (xs ++ ds) S2
  | .tup xs => (ms ρ S1).bind fun ds S2 => .ok (xs ++ ds) S2
  | .loc n => match S1[n]? with
    | some (.lst xs) => (ms ρ S1).bind fun ds S2 => .ok (xs ++ ds) S2
    | _ => .no
  | _ => .no
section
variable {X : Cx} {e : Expr} {es : List Expr} {m : ME} {ms : MA} {p pos : Pos}
def dicE : ME := fun _ S => .ok .dic0 S
theorem qe_dic0 : QE X (.Dict [] [] pos) dicE := qe_of pe_dnewK fun ρ S G σ H Q sm re z => fun d hd => z _ _ _ (Stp.put sm hd) (sm.put hd) (.dic0 upd_same)
end
theorem looksTy {X : Cx} {pins : List (Addr × Obj)} {σ : L2.St} {H : Hp} {s : Shared} {G : Gh} {S : Sto} {d : D} {v : V} {u : Value} {t : Ty} (I : Inv X pins σ H s) (sm : Sm X.K G S H) (r : Rp X.K G d v) (rv : RelV v u) (e : tyD S d = some t) :
    PySem.W.Looks (model X.prog X.w) s.heap (typeOf u) (tyV' X.K t) := by
  have ofObj : ∀ {a : Addr} {o : Obj}, s.heap.get? a = some o → o.cls = tyV' X.K t → PySem.W.Looks (model X.prog X.w) s.heap (typeOf (.ref a)) (tyV' X.K t) := fun {a o} h c A Q E s' k q => wpAny_typeOf_ref (k _ _ h) (by rw [c]; exact q)
  have ofL : ∀ {a : Addr} {xs : List V}, H a = some (.lst xs) → t = .b "list" → PySem.W.Looks (model X.prog X.w) s.heap (typeOf (.ref a)) (tyV' X.K t) := fun {a xs} h c => by
    obtain ⟨_, its, n, _, h1⟩ := (show ObjOk X.prog X.w H s.heap a (.lst xs) from I.hok a _ h)
    exact ofObj h1 (by rw [c]; rfl)
  have ofI : ∀ {a dx : Addr} {c : String} {ws : List (Str × V)}, H a = some (.ins (gaS X.K c) dx ws) → t = .c c → PySem.W.Looks (model X.prog X.w) s.heap (typeOf (.ref a)) (tyV' X.K t) := fun {a dx c ws} h ec => by
    obtain ⟨od, J⟩ := inst_at I h
    rw [ec]
    exact J.type
  cases r with
  | non => cases rv; cases e; exact PySem.W.Looks.of_pure rfl
  | bl b => cases rv; cases e; exact PySem.W.Looks.of_pure rfl
  | int i => obtain ⟨t', rfl⟩ := rv; cases e; exact PySem.W.Looks.of_pure rfl
  | str x => obtain ⟨t', rfl⟩ := rv; cases e; exact PySem.W.Looks.of_pure rfl
  | tup h r =>
    cases rv
    cases e
    obtain ⟨its, _, ⟨o, h1, h2, _⟩, _⟩ := I.tuple (SqT.mono h sm.fr)
    exact ofObj h1 h2
  | lst h r => cases rv; cases e; exact ofL (sm.fr _ _ h) rfl
  | obj h r => cases rv; cases e; exact ofI (sm.fr _ _ h) rfl
  | @loc n a h =>
    cases rv
    unfold tyD at e
    simp only at e
    split at e
    · rename_i xs q
      cases e
      obtain ⟨_, vs, h1, _⟩ := sm.addr q (by simp) h
      exact ofL h1 rfl
    · rename_i c fs q
      cases e
      obtain ⟨_, dx, ws, h1, _⟩ := sm.addr q (by simp) h
      exact ofI h1 rfl
    · cases e
  | dic0 h =>
    cases rv
    cases e
    obtain ⟨_, _, vs, _, o, es, ep, h1, h2, _⟩ := (show ObjOk X.prog X.w H s.heap _ (.dK []) from I.hok _ _ (sm.fr _ _ h))
    exact ofObj h1 h2.1
  | @hob o a h =>
    cases rv
    cases o with
    | dK kvs =>
      cases e
      obtain ⟨_, _, vs, _, o, es, ep, h1, h2, _⟩ := (show ObjOk X.prog X.w H s.heap _ (.dK kvs) from I.hok _ _ (sm.fr _ _ h))
      exact ofObj h1 h2.1
    | _ => cases e
  | _ => cases e
def okTy (cs : List String) : Ty → Bool
  | .b _ => true
  | .c n => cs.contains n
def onlyB (o : Out D) : Out D := o.bind fun d S => match d with
  | .bl b => .ok (.bl b) S
  | _ => .no
def Cmps (X : Cx) (j : Nat) (n : Str) (τ : List (String × Fn)) (cs : List String) : Prop := ∀ c F, τ.lookup c = some F → (∀ t, (∀ m, t = .b m → m ∈ six) → okTy cs t = true → PySem.W.notFirst X.K (gaS X.K c) (tyV' X.K t) = true) ∧ ∃ f, Own X.K (gaS X.K c) n f ∧ FnF X.prog X.w X.K X.mg X.base j f F
def notB (o : Out D) : Out D := o.bind fun d S => match d with
  | .bl b => .ok (.bl (!b)) S
  | _ => .no
def neO (τ : List (String × Fn)) (cs : List String) (g : G2) : G2 := fun x y S => match insOf S x with
  | some (c, _) => match τ.lookup c with
    | some F => match tyD S y with
      | some t => if okTy cs t = true then notB (F [x, y] S) else .no
      | none => .no
    | none => .no
  | none => g x y S
theorem spO_notB {X : Cx} {G : Gh} {H : Hp} {o : Out D} {Q : VK} (h : sat X (Rp X.K) G H (notB o) Q) : spO X.K G H o (fun v H' => ∃ r, v = .bl r ∧ Q (.bl (!r)) H') (Est X) := by
  match o, h with
  | .ok (.bl b) S, h => exact fun G' H' v st sm r => by cases r; exact ⟨b, rfl, h G' H' _ st sm (.bl _)⟩
  | .ok .non _, h => exact h.elim
  | .ok (.int _) _, h => exact h.elim
  | .ok (.str _) _, h => exact h.elim
  | .ok (.tup _) _, h => exact h.elim
  | .ok (.lst _) _, h => exact h.elim
  | .ok (.obj _ _) _, h => exact h.elim
  | .ok (.loc _) _, h => exact h.elim
  | .ok (.cls _) _, h => exact h.elim
  | .ok (.fnc _) _, h => exact h.elim
  | .ok (.ty _) _, h => exact h.elim
  | .ok (.src _) _, h => exact h.elim
  | .ok .dic0 _, h => exact h.elim
  | .ok (.hob _) _, h => exact h.elim
  | .ok (.exc _ _) _, h => exact h.elim
  | .ex c fs S', h => exact fun cls dd H' w => ⟨G, H, c, fs, S', h, w⟩
  | .no, h => exact h.elim
theorem of_neO {X : Cx} {j : Nat} {τ : List (String × Fn)} {cs : List String} {g : G2} (hne : ∀ c F, τ.lookup c = some F → OwnNe X.K (gaS X.K c)) (hτ : Cmps X j "__eq__" τ cs) (hr : Room (j + 1) X.A) (hg : OpF X (compareOp .NotEq) g) : OpF X (compareOp .NotEq) (neO τ cs g) := fun pins s σ H v w u u' Q I rv rw' ⟨x, y, S, G, sm, rx, ry, h⟩ => by
  unfold neO at h
  split at h
  · rename_i c fs hi
    split at h
    · rename_i F hF
      split at h
      · rename_i t ht
        split at h
        · rename_i ho
          obtain ⟨a, dx, ws, rfl, hA, rf⟩ := sm.ins hi rx
          obtain ⟨hn, f, hown, Ff⟩ := hτ c F hF
          obtain rfl : u = Value.ref a := rv
          obtain ⟨od, J⟩ := inst_at I hA
          show wpAny (model X.prog X.w) X.A (richCompare .NotEq (.ref a) u') (EP X pins σ Q) X.xe s
          refine ne_rc (hne c F hF) hown (by have := hr.un; omega) I.kIn J (looksTy I sm ry rw' ht) (hn t (fun m e => by subst e; exact tyD_six ht) ho) (thn (run_at (A := X.A.in1) (vs := [.ref a, w]) Ff hr.in1 rfl passE I (.cons rfl (.cons rw' .nil)) ⟨[x, y], S, G, sm, .cons rx (.cons ry .nil), spO_notB h⟩) fun u s' z => ?_)
          obtain ⟨v, H', I', r, b', rfl, q'⟩ := z
          cases r
          exact ⟨b', rfl, .bl (!b'), H', I', rfl, q'⟩
        · exact h.elim
      · exact h.elim
    · exact h.elim
  · exact hg pins s σ H v w u u' Q I rv rw' ⟨x, y, S, G, sm, rx, ry, h⟩
def ixO (c : String) (F : Fn) : G2 := fun x y S => match insOf S x with
  | some (c', _) => if c' = c then F [x, y] S else .no
  | none => .no
theorem qe_ixO {X : Cx} {a b : Expr} {ma mb : ME} {pos : Pos} {j : Nat} {c : String} {f : Addr} {F : Fn} (ho : Own X.K (gaS X.K c) "__getitem__" f) (hf : PySem.W.fnIn X.K f = true) (Ff : FnF X.prog X.w X.K X.mg X.base j f F) (hr : Room (j + 1) X.A) (ha : QE X a ma) (hb : QE X b mb)
    (hs : ∀ x i, subscripted b true (.ref x) i = runValue (.builtin "lifetime.subscript" ⟨[.ref x, i], []⟩) := by intro _ _; rfl) : QE X (.Subscript a b pos) (bin (ixO c F) ma mb) :=
  qe_of (pe_ixO ho hf Ff hr passE ha hb hs) fun ρ S G σ H Q sm re h => by
    refine ⟨ρ, S, G, sm, re, (sat.bind h).imp fun v H1 w => ?_⟩
    obtain ⟨x, S1, G1, le1, sm1, r1, q1⟩ := w
    refine ⟨ρ, S1, G1, sm1, re.mono le1.le, (sat.bind q1).imp fun v' H2 w => ?_⟩
    obtain ⟨y, S2, G2, le2, sm2, r2, q2⟩ := w
    unfold ixO at q2
    split at q2
    · rename_i c' fs hi
      split at q2
      · rename_i hc
        subst hc
        obtain ⟨a, dx, ws, rfl, hA, rf⟩ := sm2.ins hi (r1.mono le2.le)
        exact ⟨a, dx, ws, rfl, hA, [x, y], S2, G2, sm2, .cons (r1.mono le2.le) (.cons r2 .nil), sat_sp q2⟩
      · exact q2.elim
    · exact q2.elim
def okRes (o : Out D) : Out D := o.bind fun d S => match d with
  | .obj c fs => .ok (.obj c fs) S
  | .tup xs => .ok (.tup xs) S
  | .lst xs => .ok (.lst xs) S
  | .loc n => .ok (.loc n) S
  | _ => .no
theorem spO_okRes {X : Cx} {G : Gh} {H : Hp} {o : Out D} {Q : VK} (h : sat X (Rp X.K) G H (okRes o) Q) : spO X.K G H o (fun v H' => (∃ r, v = .ref r) ∧ Q v H') (Est X) := by
  match o, h with
  | .ok (.obj c fs) S, h => exact fun G' H' v st sm r => by cases r with | obj a b => exact ⟨⟨_, rfl⟩, h G' H' _ st sm (.obj a b)⟩
  | .ok (.tup xs) S, h => exact fun G' H' v st sm r => by cases r with | tup a b => exact ⟨⟨_, rfl⟩, h G' H' _ st sm (.tup a b)⟩
  | .ok (.lst xs) S, h => exact fun G' H' v st sm r => by cases r with | lst a b => exact ⟨⟨_, rfl⟩, h G' H' _ st sm (.lst a b)⟩
  | .ok (.loc n) S, h => exact fun G' H' v st sm r => by cases r with | loc a => exact ⟨⟨_, rfl⟩, h G' H' _ st sm (.loc a)⟩
  | .ok .non _, h => exact h.elim
  | .ok (.bl _) _, h => exact h.elim
  | .ok (.int _) _, h => exact h.elim
  | .ok (.str _) _, h => exact h.elim
  | .ok (.cls _) _, h => exact h.elim
  | .ok (.fnc _) _, h => exact h.elim
  | .ok (.ty _) _, h => exact h.elim
  | .ok (.src _) _, h => exact h.elim
  | .ok .dic0 _, h => exact h.elim
  | .ok (.hob _) _, h => exact h.elim
  | .ok (.exc _ _) _, h => exact h.elim
  | .ex c fs S', h => exact fun cls dd H' w => ⟨G, H, c, fs, S', h, w⟩
  | .no, h => exact h.elim
def reprOk (p : PyData) : Bool := p.showable && !p.hasDict && decide (p.depth ≤ 60) && decide (p.shown.length ≤ sizeLine)
def reprB : Fn := fun ds S => match ds with
  | [.lst xs] => match toP (.lst xs) with
    | some p => if reprOk p = true then .ok (.str p.shown) S else .no
    | none => .no
  | [.tup xs] => match toP (.tup xs) with
    | some p => if reprOk p = true then .ok (.str p.shown) S else .no
    | none => .no
  | [.loc n] => match S[n]? with
    | some (.lst xs) => match toP (.lst xs) with
      | some p => if reprOk p = true then .ok (.str p.shown) S else .no
      | none => .no
    | _ => .no
  | _ => .no
theorem cf_repr {X : Cx} (hg : X.A.guards = some []) (hu : X.A.units + 64 < cLine) : CallF X (.builtin "repr") reprB := fun pins s σ H vs us Q I rv ⟨ds, S, G, sm, r, h⟩ => by
  have go : ∀ {a : Addr} {p : PyData}, Dp X.K H (.ref a) p → sat X (Rp X.K) G H (if reprOk p = true then .ok (.str p.shown) S else .no) Q → vs = [.ref a] → wpAny (model X.prog X.w) X.A (call (.builtin "repr") us) (EP X pins σ Q) X.xe s := fun {a p} dp h ev => by
    subst ev
    by_cases c : reprOk p = true
    · rw [if_pos c] at h
      unfold reprOk at c
      simp only [Bool.and_eq_true, decide_eq_true_eq, Bool.not_eq_true'] at c
      exact call_reprD hg hu pins s σ H _ us Q I rv ⟨a, p, rfl, dp, c.1.1.1, c.1.1.2, c.1.2, c.2, h G H _ .refl sm (.str _)⟩
    · rw [if_neg c] at h
      exact h.elim
  unfold reprB at h
  split at h
  · split at h
    · rename_i p hp
      obtain ⟨v, rfl, q⟩ := vals1 r
      have dp := Rp.dp sm.fr _ _ _ q hp
      cases q with
      | lst a b => exact go dp h rfl
    · exact h.elim
  · split at h
    · rename_i p hp
      obtain ⟨v, rfl, q⟩ := vals1 r
      have dp := Rp.dp sm.fr _ _ _ q hp
      cases q with
      | tup a b => exact go dp h rfl
    · exact h.elim
  · split at h
    · rename_i xs hl
      split at h
      · rename_i p hp
        obtain ⟨v, rfl, q⟩ := vals1 r
        obtain ⟨a, ws, rfl, hf, ha, rr⟩ := sm.list hl q
        unfold toP at hp
        match hq : toPs xs, hp with
        | some ps, hp => cases hp; exact go (.lst (SqL.of ha) (Rps.dp sm.fr xs _ ps rr hq)) h rfl
        | none, hp => cases hp
      · exact h.elim
    · exact h.elim
  · exact h.elim
def isiA (Ts : List String) (cs : List String) (m : ME) : ME := fun ρ S => (m ρ S).bind fun x S1 => match tyD S1 x with
  | some (.b n) => .ok (.bl (Ts.any fun T => subT n T)) S1
  | some (.c n) => if cs.contains n = true then .ok (.bl false) S1 else .no
  | none => .no
section
variable {X : Cx} {e : Expr} {m : ME} {p p1 p2 p3 pos : Pos} {x1}
end
end PV
set_option Elab.async false
set_option linter.all false
set_option maxRecDepth 100000
set_option maxHeartbeats 4000000
namespace PV
open PySem PySem.Spec PyProof.Rows L2 ZL
section
variable {X : Cx} {a b c d : Expr} {ma mb mc md : ME} {g g' g'' : G2} {pos : Pos}
end
def ixB (c : String) (F : Fn) : G2 := fun x y S => match insOf S x with
  | some (c', _) => if c' = c then F [x, y] S else .no
  | none => ixG x y S
theorem qe_ixB {X : Cx} {a b : Expr} {ma mb : ME} {pos : Pos} {j : Nat} {c : String} {f : Addr} {F : Fn} (ho : Own X.K (gaS X.K c) "__getitem__" f) (hf : PySem.W.fnIn X.K f = true) (Ff : FnF X.prog X.w X.K X.mg X.base j f F) (hr : Room (j + 1) X.A) (ha : QE X a ma) (hb : QE X b mb)
    (hs : ∀ x i, subscripted b true (.ref x) i = runValue (.builtin "lifetime.subscript" ⟨[.ref x, i], []⟩) := by intro _ _; rfl) (hs2 : PlainIx b := by exact fun _ _ => rfl) : QE X (.Subscript a b pos) (bin (ixB c F) ma mb) := by
  have o : PE X (.Subscript a b pos) (fun σ H Q => tE X (bin (ixO c F) ma mb) σ H Q ∨ tE X (bin ixG ma mb) σ H Q) :=
    ⟨fun pins s σ H Q I z => z.elim ((qe_ixO ho hf Ff hr ha hb hs).run pins s σ H Q I) ((qe_ix ha hb hs2).run pins s σ H Q I)⟩
  refine qe_of o fun ρ S G σ H Q sm re z => ?_
  have z' : sat X (Rp X.K) G H ((ma ρ S).bind fun x S1 => (mb ρ S1).bind fun y S2 => ixB c F x y S2) Q := z
  match ea : ma ρ S, z' with
  | .ex cc fs S', q => exact .inl ⟨ρ, S, G, sm, re, by unfold bin; rw [ea]; exact q⟩
  | .no, q => exact q.elim
  | .ok x S1, q =>
    have q' : sat X (Rp X.K) G H ((mb ρ S1).bind fun y S2 => ixB c F x y S2) Q := q
    match eb : mb ρ S1, q' with
    | .ex cc fs S', q => exact .inl ⟨ρ, S, G, sm, re, by unfold bin; rw [ea]; show sat X _ G H ((mb ρ S1).bind _) Q; rw [eb]; exact q⟩
    | .no, q => exact q.elim
    | .ok y S2, q =>
      have q2 : sat X (Rp X.K) G H (ixB c F x y S2) Q := q
      unfold ixB at q2
      match ei : insOf S2 x, q2 with
      | some (c', fs), q2 => exact .inl ⟨ρ, S, G, sm, re, by unfold bin; rw [ea]; show sat X _ G H ((mb ρ S1).bind _) Q; rw [eb]; show sat X _ G H (ixO c F x y S2) Q; unfold ixO; rw [ei]; exact q2⟩
      | none, q2 => exact .inr ⟨ρ, S, G, sm, re, by unfold bin; rw [ea]; show sat X _ G H ((mb ρ S1).bind _) Q; rw [eb]; exact q2⟩
section
variable {X : Cx} {pins : List (Addr × Obj)} {σ : L2.St} {H : Hp} {s : Shared}
end
theorem spO_ok {X : Cx} {G : Gh} {H : Hp} {o : Out D} {Q : VK} (h : sat X (Rp X.K) G H (okRes o) Q) : spO X.K G H o (fun v H' => okV v ∧ Q v H') (Est X) := (spO_okRes h).imp fun _ _ z => ⟨.inl z.1, z.2⟩
def reprI (g : Fn) : Fn := fun ds S => match ds with
  | [.int i] => if i.natAbs.log2 < 1920 then .ok (.str (strOf i)) S else .no
  | ds => g ds S
theorem cf_reprI {X : Cx} {g : Fn} (hg : CallF X (.builtin "repr") g) : CallF X (.builtin "repr") (reprI g) := fun pins s σ H vs us Q I rv ⟨ds, S, G, sm, r, h⟩ => by
  unfold reprI at h
  split at h
  · split at h
    · rename_i c
      obtain ⟨v, rfl, q⟩ := vals1 r
      cases q
      exact SkE.call_repr_int pins s σ H _ us Q I rv ⟨_, rfl, c, h G H _ .refl sm (.str _)⟩
    · exact h.elim
  · exact hg pins s σ H vs us Q I rv ⟨_, S, G, sm, r, h⟩
theorem cval_of {K : PySem.W.Frag} {C : Addr} {f : Str} {i : Int} (h : (match PySem.W.findCls K (.ref C) (.type "type") f with | some (.val (.int j _)) => decide (j = i) | _ => false) = true) : ∃ u, ClX.CVal K C (.type "type") f (.int i) u := by
  split at h
  · rename_i j t e
    have := of_decide_eq_true h
    subst this
    exact ⟨_, e, ⟨_, rfl⟩⟩
  · cases h
theorem memLk {β : Type} {c : String} {b : β} : ∀ {l : List (String × β)}, l.lookup c = some b → (c, b) ∈ l
  | [], h => by cases h
  | (k, v) :: l, h => by
    by_cases e : c = k
    · subst e
      simp at h
      subst h
      exact List.mem_cons_self
    · have e' : (c == k) = false := by simpa using e
      rw [List.lookup_cons, e'] at h
      exact List.mem_cons_of_mem _ (memLk h)
theorem u65 {j : Nat} {A : Around} (r : Room j A) : A.units + 65 < cLine := by have := r.un; omega
end PV
set_option Elab.async false
set_option linter.all false
set_option maxRecDepth 100000
set_option maxHeartbeats 4000000
namespace PV
open PySem PySem.Spec PyProof.Rows L2 ZL
def whL (t : MT) (b : MS) : Nat → Ev → Sto → Out Fl
  | 0, _, _ => .no
  | n + 1, ρ, S => (t ρ S).bind fun c S1 => if c = true then (b ρ S1).bind fun f S2 => match f with
      | .nx ρ' => whL t b n ρ' S2
      | .ct ρ' => whL t b n ρ' S2
      | .bk ρ' => .ok (.nx ρ') S2
      | .rt d => .ok (.rt d) S2
    else .ok (.nx ρ) S1
theorem whL_up {t : MT} {b : MS} : ∀ {n m : Nat} {ρ : Ev} {S : Sto}, n ≤ m → whL t b n ρ S ≠ .no → whL t b m ρ S = whL t b n ρ S
  | 0, _, _, _, _, h => absurd rfl h
  | n + 1, 0, _, _, h, _ => absurd h (by omega)
  | n + 1, m + 1, ρ, S, hm, h => by
    unfold whL at h ⊢
    match et : t ρ S, h with
    | .ok false S1, _ => rfl
    | .ex _ _ _, _ => rfl
    | .no, _ => rfl
    | .ok true S1, h =>
      have h : (b ρ S1).bind (fun f S2 => match f with
        | .nx ρ' => whL t b n ρ' S2
        | .ct ρ' => whL t b n ρ' S2
        | .bk ρ' => .ok (.nx ρ') S2
        | .rt d => .ok (.rt d) S2) ≠ .no := h
      show (b ρ S1).bind (fun f S2 => match f with
        | .nx ρ' => whL t b m ρ' S2
        | .ct ρ' => whL t b m ρ' S2
        | .bk ρ' => .ok (.nx ρ') S2
        | .rt d => .ok (.rt d) S2) = (b ρ S1).bind (fun f S2 => match f with
        | .nx ρ' => whL t b n ρ' S2
        | .ct ρ' => whL t b n ρ' S2
        | .bk ρ' => .ok (.nx ρ') S2
        | .rt d => .ok (.rt d) S2)
      match eb : b ρ S1, h with
      | .ok (.nx ρ') S2, h => exact whL_up (by omega) h
      | .ok (.ct ρ') S2, h => exact whL_up (by omega) h
      | .ok (.bk ρ') S2, _ => rfl
      | .ok (.rt d) S2, _ => rfl
      | .ex _ _ _, _ => rfl
      | .no, _ => rfl
open Classical in
noncomputable def sWhl (t : MT) (b : MS) : MS := fun ρ S => if h : ∃ n, whL t b n ρ S ≠ .no then whL t b h.choose ρ S else .no
theorem whl_ok {t : MT} {b : MS} {n : Nat} {ρ : Ev} {S : Sto} {o : Out Fl} (h : whL t b n ρ S = o) (ho : o ≠ .no) : sWhl t b ρ S = o := by
  have hx : ∃ n, whL t b n ρ S ≠ .no := ⟨n, by rw [h]; exact ho⟩
  unfold sWhl
  rw [dif_pos hx]
  have h1 := hx.choose_spec
  rcases Nat.le_total n hx.choose with c | c
  · rw [whL_up c (by rw [h]; exact ho), h]
  · rw [← whL_up c h1, h]
theorem qs_whl {X : Cx} {c : Expr} {body : List Stmt} {mt : MT} {mb : MS} {pos : Pos} (hp : PassesOwn (model X.prog X.w) X.A X.env X.xe) (hc : QT X c mt) (hb : QSs X body mb) : QS X (.While c body [] pos) (sWhl mt mb) := qs_of (ps_while hp hc hb) fun ρ0 S0 G0 σ0 H0 D sm0 re0 h => by
  classical
  unfold sWhl at h
  split at h
  · rename_i hx
    refine ⟨fun m σ H => ∃ ρ S G, Sm X.K G S H ∧ Re X.K G ρ σ ∧ satS X G H (whL mt mb m ρ S) D, ⟨hx.choose, ρ0, S0, G0, sm0, re0, h⟩, ?_⟩
    rintro m σ H ⟨ρ, S, G, sm, re, q⟩
    match m, q with
    | 0, q => exact q.elim
    | m + 1, q =>
      unfold whL at q
      refine ⟨ρ, S, G, sm, re, (satS.bind (R := fun _ a b => a = b) q).imp fun b H1 w => ?_⟩
      obtain ⟨b', S1, G1, le1, sm1, rfl, q1⟩ := w
      cases b' with
      | false => exact q1 G1 H1 σ .refl sm1 (re.mono le1.le)
      | true =>
        refine ⟨fun σ' H' => ∃ ρ S G, Sm X.K G S H' ∧ Re X.K G ρ σ' ∧ satS X G H' (whL mt mb m ρ S) D, fun σ' H' z => ⟨m, by omega, z⟩, ρ, S1, G1, sm1, re.mono le1.le, ?_⟩
        have q2 : satS X G1 H1 ((mb ρ S1).bind fun f S2 => match f with
          | .nx ρ' => whL mt mb m ρ' S2
          | .ct ρ' => whL mt mb m ρ' S2
          | .bk ρ' => .ok (.nx ρ') S2
          | .rt d => .ok (.rt d) S2) D := q1
        match mb ρ S1, q2 with
        | .ok (.nx ρ') S', q2 => exact fun G3 H3 σ3 st3 sm3 re3 => ⟨ρ', S', G3, sm3, re3, q2.mono st3⟩
        | .ok (.ct ρ') S', q2 => exact fun G3 H3 σ3 st3 sm3 re3 => ⟨ρ', S', G3, sm3, re3, q2.mono st3⟩
        | .ok (.bk ρ') S', q2 => exact q2
        | .ok (.rt d) S', q2 => exact q2
        | .ex _ _ _, q2 => exact q2
        | .no, q2 => exact q2
  · exact h.elim
end PV
set_option Elab.async false
set_option linter.all false
set_option maxRecDepth 100000
set_option maxHeartbeats 1000000
namespace ZL
open PySem PySem.Spec PyProof.Rows L2 RZ
def AtSq : Bool → Heap → Addr → Array Value → Prop
  | true, g, a, m => g.IsTuple a m
  | false, g, a, m => g.IsList a m
def AtIt : Bool → Heap → Addr → Addr → Nat → Prop
  | true, g, c, a, k => g.IsTupleIter c a k
  | false, g, c, a, k => g.IsListIter c a k
theorem AtIt.has {t : Bool} {g : Heap} {c a : Addr} {k : Nat} (h : AtIt t g c a k) : ∃ o, g.get? c = some o ∧ ∀ v, o.data ≠ .cell v := by
  cases t with
  | true =>
    obtain ⟨o, e, _, d⟩ := h
    exact ⟨o, e, fun v z => by rw [d] at z; cases z⟩
  | false =>
    obtain ⟨o, e, _, d⟩ := h
    exact ⟨o, e, fun v z => by rw [d] at z; cases z⟩
theorem AtSq.has {t : Bool} {g : Heap} {a : Addr} {m : Array Value} (h : AtSq t g a m) : ∃ o, g.get? a = some o := by
  cases t with
  | true => exact let ⟨o, e, _⟩ := id h; ⟨o, e⟩
  | false => exact let ⟨o, e, _⟩ := id h; ⟨o, e⟩
def SqA (K : PySem.W.Frag) : Bool → Hp → Addr → List V → Prop
  | true, H, a, xs => SqT K H a xs
  | false, H, a, xs => SqL K H a xs
theorem SqA.at {X : Cx} {pins : List (Addr × Obj)} {σ : L2.St} {H : Hp} {s : Shared} {t : Bool} {a : Addr} {xs : List V} (I : Inv X pins σ H s) (h : SqA X.K t H a xs) : ∃ its : List Value, Vals xs its ∧ AtSq t s.heap a its.toArray := by
  cases t with
  | true =>
    obtain ⟨its, rv, p, _⟩ := I.tuple (show SqT X.K H a xs from h)
    exact ⟨its, rv, p⟩
  | false =>
    obtain ⟨its, rv, p, _⟩ := I.list (show SqL X.K H a xs from h)
    exact ⟨its, rv, p.isList⟩
theorem SqA.one {X : Cx} {pins : List (Addr × Obj)} {σ : L2.St} {H : Hp} {s : Shared} {t : Bool} {a : Addr} {xs ys : List V} (I : Inv X pins σ H s) (h : SqA X.K t H a xs) (h' : SqA X.K t H a ys) : xs = ys := by
  cases t with
  | true => exact I.tuple_inj h h'
  | false => exact I.list_inj h h'
end ZL
set_option Elab.async false
set_option linter.all false
set_option maxRecDepth 100000
set_option maxHeartbeats 4000000
namespace PV
open PySem PySem.Spec PyProof.Rows L2 ZL RZ
def zipD (xs ys : List D) : List D := (xs.zip ys).map fun p => .tup [p.1, p.2]
theorem SqA.up {K : PySem.W.Frag} {G G' : Gh} {S : Sto} {H : Hp} {t : Bool} {a : Addr} {vs : List V} (h : SqA K t G.F a vs) (le : G.le G') (sm : Sm K G' S H) : SqA K t H a vs := by
  cases t with
  | true => exact SqT.mono (SqT.mono h le.1) sm.fr
  | false => exact SqL.mono (SqL.mono h le.1) sm.fr
section
variable {K : PySem.W.Frag} {G : Gh}
end
def zpD (ds : List D) (S1 : Sto) : Out (List D × Option Nat) := match ds with
  | [.lst xs, .lst ys] => .ok (zipD xs ys, none) S1
  | [.tup xs, .tup ys] => .ok (zipD xs ys, none) S1
  | [.tup xs, .lst ys] => .ok (zipD xs ys, none) S1
  | [.lst xs, .tup ys] => .ok (zipD xs ys, none) S1
  | _ => .no
def iZp (m : MA) : MI := fun ρ S => (m ρ S).bind zpD
end PV
set_option Elab.async false
set_option linter.all false
set_option maxRecDepth 100000
set_option maxHeartbeats 4000000
namespace PV
open PySem PySem.Spec PyProof.Rows L2 ZL
section
variable {P : Program} {w : World} {K : PySem.W.Frag} {mg : Str → Option Value} {base : Heap} {x qual : Str} {st : Stmt} {kws : List (Str × V)} {f : Addr} {fd : FuncData} {N ps : List Str} {j : Nat} {b : MS} {dvs : List V} {dds : List D}
end
end PV
set_option Elab.async false
set_option linter.all false
set_option maxRecDepth 100000
set_option maxHeartbeats 4000000
namespace PV
open PySem PySem.Spec PyProof.Rows L2 ZL
structure SMet (K : PySem.W.Frag) (C : Addr) (mc : Value) (m : Str) (p g : Addr) : Prop where
  at_ : PySem.W.findCls K (.ref C) mc m = some (.get (.builtin "staticmethod.__get__") (.ref p) .none (.ref C))
  rc : ∃ rest, PySem.W.recIn K p "staticmethod" = some (.ref g :: rest)
  kp : PySem.W.keepIn K (.ref g) = true
section
variable {X : Cx} {CX : CXT} {k : Nat} {C p g : Addr} {mc : Value} {sp : Sp} {E : XK} {o e : Expr} {es : List Expr} {f m : Str} {pos apos : Pos} {ta : TE} {t : TA} {pl : Sem Bool}
end
def smE (c : String) (F : Fn) (o : ME) (ms : MA) : ME := fun ρ S => (o ρ S).bind fun x S1 => if isCl c x = true then (ms ρ S1).bind fun ds S2 => F ds S2 else .no
section
variable {X : Cx} {c : String} {F : Fn} {j : Nat} {o e : Expr} {es : List Expr} {mo : ME} {ms : MA} {apos pos : Pos} {m : Str} {p g : Addr} {mc : Value} {pl : Sem Bool}
end
end PV
set_option Elab.async false
set_option linter.all false
set_option maxRecDepth 100000
set_option maxHeartbeats 4000000
namespace PV
open PySem PySem.Spec PyProof.Rows L2 ZL
def pickL {α : Type} (idx : List Nat) (l : List α) : List α := idx.filterMap fun i => l[i]?
def kwF (idx : List Nat) (dds : List D) (F : Fn) : Fn := fun ds S => F (pickL idx (ds ++ dds)) S
def FnKO (P : Program) (w : World) (K : PySem.W.Frag) (mg : Str → Option Value) (base : Heap) (k : Nat) (f : Addr) (n : Nat) (ks : List Str) (F : Fn) : Prop :=
  ∃ (fd : FuncData) (ps : List Str) (g : List Value → List Value → List Value) (gV : List V → List V → List V) (sp : Sp), FnOk P w K mg base (L2.CX P w) k f fd ps sp ∧ KBn K fd ps n ks g gV ∧
    ∀ vs zs H Q E, spF K F (vs ++ zs) H Q E → sp (gV vs zs) H Q E
section
variable {P : Program} {w : World} {K : PySem.W.Frag} {mg : Str → Option Value} {base : Heap} {x qual : Str} {st : Stmt} {kws : List (Str × V)} {f : Addr} {fd : FuncData} {N ps : List Str} {j : Nat} {b : MS} {dvs : List V} {dds : List D}
end
section
variable {X : Cx} {e : Expr} {m : ME} {ms : MA} {kws : List Keyword} {nm : Option Str} {kpos : Pos}
end
def ofLen (n : Nat) (F : Fn) : Fn := fun ds S => if ds.length = n then F ds S else .no
section
variable {X : Cx} {c : String} {F : Fn} {j : Nat} {f : Addr} {ms : MA} {p pos : Pos} {kws : List Keyword} {ks : List Str}
end
end PV
set_option Elab.async false
set_option linter.all false
set_option maxRecDepth 100000
set_option maxHeartbeats 4000000
namespace PV
open PySem PySem.Spec PyProof.Rows L2 ZL
section
variable {X : Cx} {c : String} {F : Fn} {j : Nat} {o : Expr} {mo : ME} {ms : MA} {apos pos : Pos} {m : Str} {p g : Addr} {mc : Value} {pl : Sem Bool} {kws : List Keyword} {ks : List Str}
def mtK (c : String) (n : String) (k : Nat) (F : Fn) (o : ME) (ms : MA) : ME := fun ρ S => (o ρ S).bind fun x S1 => match insOf S1 x with
  | some (c', fs) => if c' = c then match fs.lookup n with
      | none => (ms ρ S1).bind fun ds S2 => if ds.length = k then F (x :: ds) S2 else .no
      | some _ => .no
    else .no
  | none => .no
end
end PV
set_option Elab.async false
set_option linter.all false
set_option maxRecDepth 100000
set_option maxHeartbeats 4000000
namespace PV
open PySem PySem.Spec PyProof.Rows L2 ZL
theorem smet_of {K : PySem.W.Frag} {C : Addr} {m : Str} (h : He5.wrapB K C "staticmethod" "staticmethod.__get__" m = true) (hf : PySem.W.keepIn K (.ref (He5.wf K C "staticmethod" m)) = true) : SMet K C (.type "type") m (He.ma K C m) (He5.wf K C "staticmethod" m) := by
  obtain ⟨h1, h2⟩ := He5.wrapB_ok h
  exact ⟨h1, h2, hf⟩
end PV
set_option Elab.async false
set_option linter.all false
set_option maxRecDepth 100000
set_option maxHeartbeats 4000000
namespace ZS
open PySem PySem.Spec PyProof.Rows
theorem getD_at {xs : List Str} {i : Nat} (h : i < xs.length) : xs.getD i Str.empty = xs[i] := by
  rw [List.getD_eq_getElem?_getD, List.getElem?_eq_getElem h]
  rfl
theorem next_any {xs : List Str} {i : Nat} (h : i < xs.length) (z : Str) : (((xs.take i).any fun y => y == z) || decide (z = xs[i])) = (xs.take (i + 1)).any fun y => y == z := by
  rw [List.take_add_one, List.getElem?_eq_getElem h, List.any_append]
  congr 1
  by_cases e : z = xs[i]
  · subst e; simp
  · rw [decide_eq_false e]
    simp
    exact fun q => e q.symm
def dN (xs : List Str) : Nat → Nat
  | 0 => 0
  | i + 1 => if ((xs.take i).any fun z => z == xs.getD i Str.empty) = true then dN xs i else dN xs i + 1
theorem dN_le (xs : List Str) : ∀ i, dN xs i ≤ i
  | 0 => Nat.le_refl _
  | i + 1 => by
    have := dN_le xs i
    unfold dN
    split <;> omega
section
variable {prog : Program} {w : World} {A : Around} {R : Result → Shared → Prop} {I : Addr} {fp wr : List Addr} {G : Array GenState → Array GenState → Prop} {n : Nat} {P : Nat → Value → Prop} {St : Nat → Shared → Prop}
abbrev SetAt (prog : Program) (w : World) (xs : List Str) (S : Addr) (i : Nat) (h : Heap) : Prop := h.SetOf (PySem.strKind prog w) S (fun z => (xs.take i).any fun y => y == z) (dN xs i)
theorem at_moved {xs : List Str} {S : Addr} {i : Nat} {h h' : Heap} (q : SetAt prog w xs S i h) (k : ∀ o, h.get? S = some o → h'.get? S = some o) : SetAt prog w xs S i h' := by
  obtain ⟨o, es, ep, t, ho, z⟩ := q
  exact ⟨o, es, ep, t, k o ho, z⟩
theorem fills (W : WalksS prog w A.in1 I fp wr G n P St) (S : Addr) (out : S ∉ fp) {xs : List Str} (hn : xs.length = n) (few : n < 4000) (at_ : ∀ i v, P i v → ∃ t, v = .str (xs.getD i Str.empty) t) :
    ∀ (k i : Nat) (s : Shared), k = n - i → i ≤ n → St i s → SetAt prog w xs S i s.heap → (∀ s', Moved (S :: wr) G s s' → SetAt prog w xs S n s'.heap → R (.ok (.ret .none)) s') → codeAny (model prog w) A (.builtin "set.update.loop" ⟨[.ref S, .ref I], []⟩) R s
  | 0, i, s, hk, hi, st, q, r => by
    have e : i = n := by omega
    subst e
    have nw : S ∉ wr := fun z => out (W.sub _ z)
    refine codeAny_builtin PyProof.Rows.F.entry_set_update_loop ?_
    rw [Around.under_plainId PyProof.Rows.F.plain_set_update_loop _]
    show wpAny _ A.in1 (pyNext (.ref I) >>= _) _ _ s
    refine wpAny_bind (W.done s _ _ st fun s' mv => ?_)
    show wpAny _ A.in1 (ret Value.none) _ _ s'
    exact wpAny_pure (r s' (mv.mono fun b hb => List.mem_cons_of_mem _ hb) (at_moved q fun o e => mv.heap S _ nw e))
  | k + 1, i, s, hk, hi, st, q, r => by
    have lt : i < n := by omega
    have lt' : i < xs.length := by omega
    have nw : S ∉ wr := fun z => out (W.sub _ z)
    refine codeAny_builtin PyProof.Rows.F.entry_set_update_loop ?_
    rw [Around.under_plainId PyProof.Rows.F.plain_set_update_loop _]
    show wpAny _ A.in1 (pyNext (.ref I) >>= _) _ _ s
    refine wpAny_bind (W.item i s _ _ lt st fun v s1 p st1 mv => ?_)
    obtain ⟨t, rfl⟩ := at_ i v p
    rw [getD_at lt']
    have q1 := at_moved q fun o e => mv.heap S _ nw e
    show wpAny _ A.in1 (holding [Value.str xs[i] t] (setAdd S (.str xs[i] t)) >>= _) _ _ s1
    refine wpAny_bind (wpAny_holding ?_)
    unfold setAdd
    refine wpAny_holding (wpAny_bind ((PySem.strKind prog w).pyHash (k := xs[i]) (strKind_is _ _ _ _) ?_))
    refine wpAny_setAddHashed_of (knd := PySem.strKind prog w) (s := { s1 with toks := s1.toks + 1 }) (strKind_is _ _ _ _) rfl q1 (by have := dN_le xs i; unfold scanBound; omega) fun h' same q2 => ?_
    have q3 : SetAt prog w xs S (i + 1) h' := SetOf_congr q2 (fun z => next_any lt' z) (by show _ = (if ((xs.take i).any fun z => z == xs.getD i Str.empty) = true then dN xs i else dN xs i + 1); rw [getD_at lt'])
    refine wpAny_pure ⟨plainId_quiet PyProof.Rows.F.plain_set_update_loop _, fills W S out hn few at_ k (i + 1) _ (by omega) lt (W.frame _ s1 _ _ st1 (Nat.le_succ _) fun b hb o e => ?_) q3 fun s2 mv2 q4 => ?_⟩
    · have ne : b ≠ S := fun z => out (z ▸ hb)
      rw [same.2 b ne]
      exact e
    · have mv0 := mv.mono (fun b (hb : b ∈ wr) => List.mem_cons_of_mem S hb)
      refine r s2 (Moved.trans W.gtrans (mv0.then_heap (Nat.le_succ _) fun b o hb e => ?_) mv2) q4
      have ne : b ≠ S := fun z => hb (by rw [z]; exact List.mem_cons_self)
      rw [same.2 b ne]
      exact e
end
section
variable {prog : Program} {w : World} {A : Around} {E : Value → Shared → Prop} {s : Shared}
end
end ZS
namespace L2
open PySem PySem.Spec PyProof.Rows
end L2
set_option Elab.async false
set_option linter.all false
set_option maxRecDepth 100000
set_option maxHeartbeats 4000000
namespace ZL
open PySem PySem.Spec PyProof.Rows L2
end ZL
set_option Elab.async false
set_option linter.all false
set_option maxRecDepth 100000
set_option maxHeartbeats 4000000
namespace PV
open PySem PySem.Spec PyProof.Rows L2 ZL
def ensD (ds : List D) (S1 : Sto) : Out (List D × Option Nat) := match ds with
  | [.str z] => .ok (numbered 0 (signs z), none) S1
  | _ => .no
def iEs (m : MA) : MI := fun ρ S => (m ρ S).bind ensD
def lnsE (m : ME) : ME := fun ρ S => (m ρ S).bind fun d S1 => match d with
  | .lst xs => match asStrs xs with
    | some ys => if ys.Nodup ∧ ys.length < 4000 then .ok (.int ys.length) S1 else .no
    | none => .no
  | _ => .no
inductive Cst where
  | int (i : Int) | str (z : Str) | bl (b : Bool) | non
def Cst.v : Cst → V
  | .int i => .int i
  | .str z => .str z
  | .bl b => .bl b
  | .non => .non
def Cst.d : Cst → D
  | .int i => .int i
  | .str z => .str z
  | .bl b => .bl b
  | .non => .non
def kvV (kvs : List (Str × Cst)) : List (Key × V) := kvs.map fun q => (.inr q.1, q.2.v)
def dcE (kvs : List (Str × Cst)) : ME := fun _ S => .ok (.hob (.dK (mergeK [] (kvV kvs)))) S
end PV
set_option Elab.async false
set_option linter.all false
set_option maxRecDepth 100000
set_option maxHeartbeats 4000000
namespace PV
open PySem PySem.Spec PyProof.Rows L2 ZL
theorem u1 {j : Nat} {A : Around} (r : Room j A) : A.units + 1 < cLine := by have := r.un; omega
theorem dval_of {K : PySem.W.Frag} {a : Addr} {k v : Str} (h : (match PySem.W.nsIn K a k with | some (some (.str y _)) => decide (y = v) | _ => false) = true) : ∃ t, PySem.W.nsIn K a k = some (some (.str v t)) := by
  split at h
  · rename_i y t e
    have := of_decide_eq_true h
    subst this
    exact ⟨t, e⟩
  · cases h
end PV
set_option Elab.async false
set_option linter.all false
set_option maxRecDepth 100000
set_option maxHeartbeats 4000000
namespace L2
open PySem PySem.Spec PyProof.Rows
end L2
namespace PV
open PySem PySem.Spec PyProof.Rows L2 ZL
def frzE (m : ME) : ME := fun ρ S => (m ρ S).bind fun d S1 => match d with
  | .loc n => match S1[n]? with
    | some (.lst xs) => .ok (.lst xs) (S1.set n .dead)
    | _ => .no
  | _ => .no
theorem qe_frz {X : Cx} {e : Expr} {m : ME} (h : QE X e m) : QE X e (frzE m) := qe_of h fun ρ S G σ H Q sm re z => by
  refine ⟨ρ, S, G, sm, re, ?_⟩
  unfold frzE at z
  match em : m ρ S, z with
  | .ex c fs S', z => exact z
  | .no, z => exact z.elim
  | .ok d S1, z =>
    intro G1 H1 v st sm1 r
    simp only [Out.bind] at z
    split at z
    · split at z
      · rename_i n xs hn
        cases r with
        | loc hf =>
          obtain ⟨hF, vs, ha, rr⟩ := sm1.addr hn (by simp) hf
          have fr := Stp.freeze (H := H1) (o := .lst vs) hf hF
          exact z _ H1 _ (st.trans fr) (sm1.freeze hn (by simp) hf ha) (.lst upd_same (rr.mono fr.le))
      · exact z.elim
    · exact z.elim
end PV
set_option Elab.async false
set_option linter.all false
set_option maxRecDepth 100000
set_option maxHeartbeats 4000000
namespace L2
open PySem PySem.Spec PyProof.Rows
section
variable {X : Cx} {tg : Expr}
end
end L2
namespace PV
open PySem PySem.Spec PyProof.Rows L2
section
variable {X : Cx} {tg e : Expr} {ms : MA} {p pos : Pos}
end
end PV
set_option Elab.async false
set_option linter.all false
set_option maxRecDepth 100000
set_option maxHeartbeats 4000000
namespace PV
open PySem PySem.Spec PyProof.Rows L2 ZL
section
variable {X : Cx} {pins : List (Addr × Obj)} {σ : L2.St} {H : Hp} {s : Shared}
theorem exV_ok {P : Program} {w : World} {H : Hp} {h : Heap} {a : Addr} {cls : Value} {dd : Option Addr} {oe : Obj} {vs : Array Value} (e : h.get? a = some oe) (z : Zc cls dd oe) (d : oe.data = .fields vs) : ObjOk P w H h a (ExV cls dd a) :=
  ⟨⟨oe, vs, e, z, d⟩, ⟨oe, e⟩, fun _ _ q k => by
    obtain ⟨o, v, q1, q2⟩ := q
    exact ⟨o, v, k _ q1, q2⟩⟩
theorem inv_told {a : Addr} {oe : Obj} {o : HO} (I : Inv X ((a, oe) :: pins) σ H s) (n0 : X.s_0.heap.get? a = none) (np : ∀ p ∈ X.pn ++ pins, p.1 ≠ a) (new : ObjOk X.prog X.w (upd H a o) s.heap a o) : Inv X pins σ (upd H a o) s := by
  obtain ⟨e1, e2, e3, e4, e5⟩ := I.pin (a, oe) (List.mem_append_right _ List.mem_cons_self)
  have ne : ∀ b, H b ≠ none → b ≠ a := fun b hb z => hb (by rw [z]; exact e2)
  have at_ : ∀ b, b ≠ a → upd H a o b = H b := fun b hb => upd_ne hb
  refine ⟨I.ok, I.os, I.bare, ⟨I.base.keep, I.base.slot, fun b u q1 q2 q3 => ?_, I.base.there, fun b xs q => ?_, fun b u v q => ?_, fun b ps q => ?_⟩, I.loc, I.cell, ?_, fun x c q => ?_, fun p hp => ?_, ?_, I.len⟩
  · rw [at_ b fun z => by rw [z, n0] at q1; cases q1]
    exact I.base.free b u q1 q2 q3
  · have y := I.base.tups b xs q
    rw [at_ b (ne b (by rw [y]; simp))]
    exact y
  · have y := I.base.frzs b u v q
    rw [at_ b (ne b (by rw [y]; simp))]
    exact y
  · obtain ⟨m, y⟩ := I.base.tbls b ps q
    exact ⟨m, by rw [at_ b (ne b (by rw [y]; simp))]; exact y⟩
  · rw [at_ _ (Ne.symm e3)]
    exact I.free
  · rw [at_ c fun z => ?_]
    · exact I.freeC x c q
    · obtain ⟨v, oc, h1, h2⟩ := I.cell x c q
      rw [z, e1] at h1
      cases h1
      exact e5 v h2
  · obtain ⟨f1, f2, f3⟩ := I.pin p ((List.mem_append.mp hp).elim (fun z => List.mem_append_left _ z) fun z => List.mem_append_right _ (List.mem_cons_of_mem _ z))
    exact ⟨f1, by rw [at_ _ (np p hp)]; exact f2, f3⟩
  · exact HOk.laidN I.hok (fun _ _ z => z) e2 new
end
def wKeep (n i j : Nat) (D : Ends) : WX := fun cls dd σ H => σ.length = n → ∀ a, H a = none → D.nx ((σ.set j (some (.ref a))).set i none) (upd H a (ExV cls dd a))
section
variable {X : Cx} {x n y : Str} {c : Value} {i j : Nat} {body : List Stmt} {np p1 p2 p3 pos pos' : Pos} {tb : WX → TS}
theorem ps_try_keep (hs : X.stack = X.env :: X.outer) (hf : X.env.frame = some X.env.locals) (hN : X.N.Nodup) (hi : X.N[i]? = some n) (hj : X.N[j]? = some y) (hij : i ≠ j) (hln : X.env.kindOf n = some .local) (hly : X.env.scope.names.lookup y = some .local) (hc : Names X x c)
    (hexn : ∀ b, b ∉ X.ex) (hdn : (n == ("__debug__" : Str)) = false := by decide) (hcn : (n == ("__classdict__" : Str)) = false := by decide)
    (hsw : swapsWith (.Name n p1) (some (.Name y p2)) p3.line X.env = pure false := by rfl)
    (hb : ∀ (W : WX) (pn : List (Addr × Obj)) (xe : Value → Shared → Prop), Takes (X.tr pn xe) W → PassesOwn (model X.prog X.w) X.A X.env xe → PSs (X.tr pn xe) body (tb W)) :
    PS X (.Try body [.ExceptHandler (some (.Name x np)) (some n) [.Assign [.Name y p2] (.Name n p1) p3] pos'] [] [] pos) (fun D σ H => tb (fun cls dd σ H => PySem.W.exmOne X.K cls c = some true ∧ wKeep X.N.length i j D cls dd σ H) D σ H) := by
  refine ⟨fun pins s σ H D I h => ?_⟩
  have ok := I.ok
  have hA : X.A.frames = some (X.env :: X.outer) := ok.frames.trans (congrArg some hs)
  refine wpAny_Try_except ?_
  refine wpAny_mono ((hb (fun cls dd σ H => PySem.W.exmOne X.K cls c = some true ∧ wKeep X.N.length i j D cls dd σ H) (X.pn ++ pins) (fun e s₁ => wpAny (model X.prog X.w) X.A (noteFrame e X.env) (fun _ s₂ =>
    wpAny (model X.prog X.w) X.A (setFlight e none) (fun _ s₃ => wpAny (model X.prog X.w) X.A (handleBy e X.env [.ExceptHandler (some (.Name x np)) (some n) [.Assign [.Name y p2] (.Name n p1) p3] pos']) (SP X pins D) X.xe s₃) X.xe s₂) X.xe s₁) (fun u s' got => ?_) PassesOwn.looking).run [] s σ H D (I.toTry _) h)
    (fun f s1 g => ?_) fun e s1 g => g
  · obtain ⟨a, B, sI, pins', σ', H', cls, dd, eu, J', nb, up, sky, na, os, ag, hx, hw⟩ := got
    subst eu
    have J : Inv X pins σ' H' sI := J'.ofTry ok
    rw [show (X.tr (X.pn ++ pins) _).stack = X.env :: X.outer from hs] at sky
    show wpAny (model X.prog X.w) X.A (noteFrame (.ref a) X.env) _ _ _
    refine Sky.land Zc.steady hA hf sky fun h3 fl3 up3 => ?_
    have J3 : Inv X pins σ' H' { s' with heap := h3 } := J.landed nb fl3.1 (up.trans up3) os ag
    obtain ⟨oe3, vs3, g3, z3, d3⟩ := fl3.there
    have nfr : a ∉ frs (X.env :: X.outer) := fun hm => by
      obtain ⟨_, o', e', hnf⟩ := fl3.2.2.1.mem hm
      rw [g3] at e'
      exact hnf vs3 ((Option.some.inj e') ▸ d3)
    have nL : a ≠ X.env.locals := fun z => nfr (List.mem_filterMap.mpr ⟨X.env, List.mem_cons_self, hf.trans (congrArg some z.symm)⟩)
    have nF : a ∉ X.fs := fun hm => by
      obtain ⟨e, he, q⟩ := List.mem_filterMap.mp hm
      exact nfr (List.mem_filterMap.mpr ⟨e, List.mem_cons_of_mem _ he, q⟩)
    have nI : sI.heap.get? a = none := by
      cases q : sI.heap.get? a with
      | none => rfl
      | some o =>
        have := nb a o q (by rw [show (X.tr (X.pn ++ pins) _).stack = X.env :: X.outer from hs]; exact nfr)
        rw [fl3.2.1] at this
        cases this
    have n0 : X.s_0.heap.get? a = none := by
      cases q : X.s_0.heap.get? a with
      | none => rfl
      | some o =>
        by_cases hx : a ∈ X.ex
        · exfalso
          exact hexn a hx
        · obtain ⟨o', q'⟩ := J.base.there a o q hx
          rw [nI] at q'
          cases q'
    have npn : ∀ p ∈ X.pn ++ pins, p.1 ≠ a := fun p hp z => by
      have := (J.pin p hp).1
      rw [z, nI] at this
      cases this
    have S3 := J3.suite g3 d3 na nL nF
    refine wpAny_handleBy_cons (codeAny_handlers_test ?_) (by intro q; cases q)
    have LM := PySem.W.exm_one (M := model X.prog X.w) (K := X.K) (e := a) J3.kIn (fun A Q E s k q => wpAny_typeOf_ref (k _ _ g3) (by rw [z3.1]; exact q)) hx
    have test : ∀ {Q : Value → Shared → Prop} {E : Value → Shared → Prop}, Q c { s' with heap := h3 } → wpAny (model X.prog X.w) (X.A.mark (some (.ref a))) (eval (.Name x np) X.env) Q E { s' with heap := h3 } := fun {Q E} q => by
      obtain ⟨k1, k2, k3 | ⟨k3, k4, k5⟩⟩ := hc
      · exact ld_glob (X := X.suite a ((a, oe3) :: (X.pn ++ pins))) S3 k1 k3 q k2
      · exact ld_blt (X := X.suite a ((a, oe3) :: (X.pn ++ pins))) S3 k1 k3 k4 q k5 k2
    refine test (LM.here (codeAny_handlers_suite_as (HandSPX.lands_againZ fl3 fun h4 fl4 up4 => ?_)))
    have J4 : Inv X pins σ' H' { s' with heap := h4 } := J.landed nb fl4.1 ((up.trans up3).trans up4) os ag
    obtain ⟨oe4, vs4, g4, z4, d4⟩ := fl4.there
    refine store_ok (X := X.suite a ((a, oe4) :: (X.pn ++ pins))) (v := .ref a) (J4.suite g4 d4 na nL nF) hN hi (.inl hln) rfl (fun s5 S5 => ?_) (.inr hln)
    have hil : i < σ'.length := by rw [J.len]; exact (List.getElem?_eq_some_iff.mp hi).1
    have Y := pss_one (ps_set (X := X.suite a ((a, oe4) :: (X.pn ++ pins))) (i := j) (pos := p3) (pos' := p2) hN hj (.inl hly) (pe_var (X := X.suite a ((a, oe4) :: (X.pn ++ pins))) (pos := p1) (i := i) hi (.inl hln) hdn hcn) hsw (.inr hly))
    refine wpAny_mono (Y.run [] s5 _ H' { nx := fun σ6 H6 => σ6 = (σ'.set i (some (.ref a))).set j (some (.ref a)) ∧ H6 = H', rt := fun _ _ => False } S5 ⟨.ref a, by rw [List.getElem?_set_self hil], rfl, rfl⟩) (fun f s6 g => ?_) fun _ _ z => z.elim
    cases f with
    | next =>
      obtain ⟨σ6, H6, S6, e6, e7⟩ := g
      subst e6
      subst e7
      have P6 := S6.pin (a, oe4) (List.mem_append_left _ List.mem_cons_self)
      have J6 : Inv X ((a, oe4) :: pins) _ H6 s6 := (S6.unsuite ok).pins_of fun p hp => by
        rcases List.mem_cons.mp hp with e | e
        · rw [e]; exact P6
        · exact (S6.unsuite ok).pin p (List.mem_append_right _ e)
      refine gone_ok J6 hN hi hln fun s7 J7 => ⟨_, _, inv_told J7 n0 npn (exV_ok (J7.pin (a, oe4) (List.mem_append_right _ List.mem_cons_self)).1 z4 d4), ?_⟩
      have e : ((σ'.set i (some (V.ref a))).set j (some (.ref a))).set i none = (σ'.set j (some (.ref a))).set i none := by
        rw [List.set_comm _ _ hij, List.set_set]
      rw [e]
      exact hw J.len a na
    | brk => obtain ⟨_, _, _, z⟩ := g; exact z.elim
    | cont => obtain ⟨_, _, _, z⟩ := g; exact z.elim
    | ret u => obtain ⟨_, _, _, _, _, z⟩ := g; exact z.elim
  · cases f with
    | next => obtain ⟨σ', H', J', q⟩ := g; exact wpAny_execs_nil ⟨σ', H', J'.ofTry ok, q⟩
    | brk => obtain ⟨σ', H', J', q⟩ := g; exact ⟨σ', H', J'.ofTry ok, q⟩
    | cont => obtain ⟨σ', H', J', q⟩ := g; exact ⟨σ', H', J'.ofTry ok, q⟩
    | ret u => obtain ⟨v, σ', H', J', r, q⟩ := g; exact ⟨v, σ', H', J'.ofTry ok, r, q⟩
end
end PV
set_option Elab.async false
set_option linter.all false
set_option maxRecDepth 100000
set_option maxHeartbeats 4000000
namespace PV
open PySem PySem.Spec PyProof.Rows L2 ZL
def oexB (K : PySem.W.Frag) (C : Addr) : Bool := match K.lookup C with
  | some ⟨.type "type", _, .cls cd, sl⟩ => (match cd.mro, sl.toList with
    | .ref C' :: bm, [_, _, _, _, some (.builtin n), _] => decide (C' = C) && (decide (n = "ValueError.__new__") && (!cd.hasDel && (cd.hasDict && PySem.HandSPX.refsVE bm)))
    | _, _ => false)
  | _ => false
def xcB (K : PySem.W.Frag) (C : Addr) : Bool :=
  decide (PySem.W.findIn K (.ref C) "__getattribute__" = some (some (.builtin "BaseException.__getattribute__"))) && (decide (PySem.W.findIn K (.ref C) "__getattr__" = some none) &&
  (decide (PySem.W.subIn K (.ref C) (.type "BaseException") = some true) && (PySem.W.hasDictIn K C && (decide (PySem.W.findIn K (.ref C) "__class__" = some (some (.builtin "object.__class__"))) &&
  (PySem.W.mroIn K C (.type "object") == some true && (decide (PySem.W.typeIn K (.ref C) = some (.type "type")) && (PySem.W.keepIn K (.ref C) && (decide (PySem.W.findIn K (.ref C) "__setattr__" = some (some (.builtin "object.__setattr__")))))))))))
structure XC (K : PySem.W.Frag) (C : Addr) : Prop where
  ga : PySem.W.findIn K (.ref C) "__getattribute__" = some (some (.builtin "BaseException.__getattribute__"))
  gg : PySem.W.findIn K (.ref C) "__getattr__" = some none
  ex : PySem.W.subIn K (.ref C) (.type "BaseException") = some true
  hd : PySem.W.hasDictIn K C = true
  ca : PySem.W.findIn K (.ref C) "__class__" = some (some (.builtin "object.__class__"))
  mo : PySem.W.mroIn K C (.type "object") = some true
  ty : PySem.W.typeIn K (.ref C) = some (.type "type")
  kp : PySem.W.keepIn K (.ref C) = true
  sa : PySem.W.findIn K (.ref C) "__setattr__" = some (some (.builtin "object.__setattr__"))
theorem xc_of {K : PySem.W.Frag} {C : Addr} (h : xcB K C = true) : XC K C := by
  obtain ⟨h1, h⟩ := Bool.and_eq_true_iff.mp h
  obtain ⟨h2, h⟩ := Bool.and_eq_true_iff.mp h
  obtain ⟨h3, h⟩ := Bool.and_eq_true_iff.mp h
  obtain ⟨h4, h⟩ := Bool.and_eq_true_iff.mp h
  obtain ⟨h5, h⟩ := Bool.and_eq_true_iff.mp h
  obtain ⟨h6, h⟩ := Bool.and_eq_true_iff.mp h
  obtain ⟨h7, h⟩ := Bool.and_eq_true_iff.mp h
  obtain ⟨h8, h9⟩ := Bool.and_eq_true_iff.mp h
  exact ⟨of_decide_eq_true h1, of_decide_eq_true h2, of_decide_eq_true h3, h4, of_decide_eq_true h5, by simpa using h6, of_decide_eq_true h7, h8, of_decide_eq_true h9⟩
theorem oex_of {K : PySem.W.Frag} {C : Addr} (x : XC K C) (q : oexB K C = true) : OexC K C := by
  refine ⟨?_, x.sa, x.ex, x.ty, x.kp⟩
  unfold oexB at q
  split at q
  · rename_i dd cd sl ho
    split at q
    · rename_i C' bm k0 k1 k2 k3 n k5 hm hs
      simp only [Bool.and_eq_true, decide_eq_true_eq, Bool.not_eq_true'] at q
      obtain ⟨q1, q2, q3, q4, q5⟩ := q
      obtain ⟨nm, bs, mro, ns, qn, hd, sn, sub, ab, col, del⟩ := cd
      simp only at hm q3 q4
      subst q1 q2 q3 q4 hm
      obtain ⟨l⟩ := sl
      simp only at hs
      subst hs
      exact ⟨nm, qn, ns, bs, bm, sn, sub, ab, col, dd, k0, k1, k2, k3, k5, ho, q5⟩
    · cases q
  · cases q
theorem exV_at {P : Program} {w : World} {H : Hp} {h : Heap} {a : Addr} {cls : Value} {dd : Option Addr} (hok : HOk P w H h) (e : H a = some (ExV cls dd a)) : ∃ (oe : Obj) (vs : Array Value), h.get? a = some oe ∧ Zc cls dd oe ∧ oe.data = .fields vs := by
  have x : ObjOk P w H h a (.ext fun h => ∃ (oe : Obj) (vs : Array Value), h.get? a = some oe ∧ Zc cls dd oe ∧ oe.data = .fields vs) := hok a _ e
  exact x.1
theorem exc_inst {X : Cx} {pins : List (Addr × Obj)} {σ : L2.St} {H : Hp} {s : Shared} {G : Gh} {S : Sto} (I : Inv X pins σ H s) (sm : Sm X.K G S H) {c : String} {fs : List (String × D)} {v : V} (r : Rp X.K G (.exc c fs) v) :
    ∃ (a : Addr) (ox : Obj) (od : Option Obj), v = .ref a ∧ PySem.W.InstAt s.heap a ox (He.ga X.K (Str.ofString c)) od ∧
      ((fs = [] ∧ od = none) ∨ ∃ ws mA d o, od = some o ∧ s.heap.Ns1 d mA ∧ s.heap.get? d = some o ∧ (∀ f, RelO (ws.lookup f) (mA f)) ∧ Rpf X.K G fs ws) := by
  cases r with
  | @exc0 _ a h =>
    obtain ⟨oe, vs, e1, e2, e3⟩ := exV_at I.hok (sm.fr _ _ h)
    exact ⟨a, oe, none, rfl, ⟨e1, e2.1, by unfold PySem.W.notCls; rw [e3] <;> rfl, by rw [e2.2]; trivial⟩, .inl ⟨rfl, rfl⟩⟩
  | @exc _ _ a d ws h hd r =>
    obtain ⟨oe, vs, e1, e2, e3⟩ := exV_at I.hok (sm.fr _ _ h)
    have hx : ObjOk X.prog X.w H s.heap d (.xd ws) := I.hok d _ (sm.fr _ _ hd)
    obtain ⟨mA, hns, hr⟩ := hx
    obtain ⟨o, es, ep, q1, q2⟩ := id hns
    exact ⟨a, oe, some o, rfl, ⟨e1, e2.1, by unfold PySem.W.notCls; rw [e3] <;> rfl, by rw [e2.2]; exact q1⟩, .inr ⟨ws, mA, d, o, rfl, hns, q1, hr, r⟩⟩
def isiX (τ : List (String × Bool)) (cls : D → Bool) (g : Fn) : Fn := fun ds S => match ds with
  | [.exc c _, w] => if cls w = true then match τ.lookup c with
      | some b => .ok (.bl b) S
      | none => .no
    else .no
  | ds => g ds S
theorem cf_isiX {X : Cx} {τ : List (String × Bool)} {cls : D → Bool} {w : Value} {g : Fn} (hg : CallF X (.builtin "isinstance") g) (hcl : ∀ c, cls c = true → ∀ G v, Rp X.K G c v → ClsV v w)
    (hcg : PySem.W.specialIn X.K (.builtin "object.__class__") "__get__" = some (some (.builtin "getset_descriptor.__get__"))) (hct : PySem.W.takesIn X.K (.builtin "object.__class__") = some true)
    (hτ : ∀ c b, τ.lookup c = some b → XC X.K (He.ga X.K (Str.ofString c)) ∧ PySem.W.kitOne X.K (.ref (He.ga X.K (Str.ofString c))) w = some b) : CallF X (.builtin "isinstance") (isiX τ cls g) := fun pins s σ H vs us Q I rv ⟨ds, S, G, sm, r, h⟩ => by
  unfold isiX at h
  split at h
  · rename_i c fs wd
    split at h
    · rename_i hw
      split at h
      · rename_i b hb
        obtain ⟨v, u, rfl, q, q'⟩ := vals2' r
        obtain ⟨k, kt⟩ := hτ c b hb
        obtain ⟨a, ox, od, rfl, J, _⟩ := exc_inst I sm q
        have cw := hcl wd hw G u q'
        cases rv with
        | cons ra rw1 =>
          cases rw1 with
          | cons rb rn =>
            cases rn
            have ea := ra
            cases ea
            have eb := cw.eq rb
            subst eb
            obtain ⟨cd, hcd, _⟩ := PySem.W.any_some k.hd
            exact PySem.W.kia_one (PySem.W.kitx_exc (by rw [hcd]; rfl) k.ga k.gg k.ex k.ca hcg hct k.mo) I.kIn J kt (fun z => nomatch z) fun tk => ⟨.bl b, H, I.kept (t' := tk) fun _ _ z => z, rfl, h G H _ .refl sm (.bl b)⟩
      · exact h.elim
    · exact h.elim
  · exact hg pins s σ H vs us Q I rv ⟨_, S, G, sm, r, h⟩
def fldX (cs : List String) (f : String) (g : G1) : G1 := fun d S => match d with
  | .exc c fs => if cs.contains c = true then match fs.lookup f with
      | some x => .ok x S
      | none => .no
    else .no
  | d => g d S
theorem qe_fldX {X : Cx} {cs : List String} {f : String} {e : Expr} {m : ME} {pos : Pos} (hc : ∀ c ∈ cs, XC X.K (He.ga X.K (Str.ofString c)) ∧ PySem.W.findIn X.K (.ref (He.ga X.K (Str.ofString c))) (Str.ofString f) = some none) (h : QE X e m) (hb : attributeBase e (Str.ofString f) X.env (eval e X.env) = eval e X.env := by rfl) :
    QE X (.Attribute e (Str.ofString f) pos) (una (fldX cs f fun _ _ => .no) m) := ⟨fun pins s σ H Q I ⟨ρ, S, G, sm, re, z⟩ => by
  refine attr_of hb (thn (h.run pins s σ H _ I ⟨ρ, S, G, sm, re, sat.bind z⟩) fun u s1 hh => ?_)
  obtain ⟨x, H1, I1, rx, d, S1, G1, le1, sm1, r1, q1⟩ := hh
  unfold fldX at q1
  split at q1
  · rename_i c fs
    split at q1
    · rename_i hm
      split at q1
      · rename_i y hl
        obtain ⟨k, kn⟩ := hc c (List.contains_iff_mem.mp hm)
        obtain ⟨a, ox, od, rfl, J, hor⟩ := exc_inst I1 sm1 r1
        obtain rfl : u = Value.ref a := rx
        rcases hor with ⟨rfl, _⟩ | ⟨ws, mA, dd, o, rfl, hns, ho, hr, rf⟩
        · cases hl
        · obtain ⟨z, hz, rz⟩ := rf.at hl
          obtain ⟨od, ho2, hl2⟩ := lookIn_ns hns
          rw [ho] at ho2
          cases ho2
          obtain ⟨u2, hu, ru⟩ := RelO.some_of (v := z) (o := mA (Str.ofString f)) (by rw [← hz]; exact hr _)
          exact HandSPX.exc_get I1.kIn J k.ga k.gg k.ex (PySem.W.findObj_own k.hd kn rfl (by rw [hl2, hu])) (handed_of ru) ⟨z, H1, I1.tok _, ru, q1 G1 H1 z .refl sm1 rz⟩
      · exact q1.elim
    · exact q1.elim
  · exact q1.elim⟩
def sRai (c : String) (fl : List String) (ms : MA) : MS := fun ρ S => (ms ρ S).bind fun ds S1 => if ds.length = fl.length then .ex c (fl.zip ds).reverse S1 else .no
section
variable {X : Cx} {c : String} {p pos pos' : Pos} {ms : MA}
theorem qs_rai_of {fl : List String} {e : Expr} {t : L2.St → Hp → XK → Prop} (hc : X.calm = true) (he : PMk X e t)
    (ht : ∀ ρ S G σ H (W : XK), Sm X.K G S H → Re X.K G ρ σ → sat X (Rps X.K) G H (ms ρ S) (fun vs H1 => ∃ ds S1 G1, Stp G H G1 H1 ∧ Sm X.K G1 S1 H1 ∧ Rps X.K G1 ds vs ∧ ds.length = fl.length ∧ ∀ cls dd H', wEx X.K G1 H1 c (fl.zip ds).reverse S1 cls dd H' → W cls dd H') → t σ H W) :
    QS X (.Raise (some e) none pos') (sRai c fl ms) := ⟨fun pins s σ H D I ⟨ρ, S, G, sm, re, z⟩ => by
  have z2 : satS X G H ((ms ρ S).bind fun ds S1 => if ds.length = fl.length then .ex c (fl.zip ds).reverse S1 else .no) D := z
  cases hm : ms ρ S with
  | no => rw [hm] at z2; exact z2.elim
  | ex c' fs' S' =>
    rw [hm] at z2
    have tk : Takes X (fun cls dd _ H' => wEx X.K G H c' fs' S' cls dd H') := z2
    exact (ps_raise (pos := pos') hc (LamX.takes0 (X := X)) he).run pins s σ H D I (ht ρ S G σ H _ sm re (by rw [hm]; exact tk))
  | ok ds S1 =>
    rw [hm] at z2
    by_cases hl : ds.length = fl.length
    · have tk : Takes X (fun cls dd _ H' => wEx X.K G H c (fl.zip ds).reverse S1 cls dd H') := by
        have z3 : satS X G H (if ds.length = fl.length then .ex c (fl.zip ds).reverse S1 else .no) D := z2
        rw [if_pos hl] at z3
        exact z3
      exact (ps_raise (pos := pos') hc tk he).run pins s σ H D I (ht ρ S G σ H _ sm re (by
        rw [hm]
        exact fun G' H' vs le sm' r => ⟨ds, S1, G', le, sm', r, hl, fun cls dd H2 w => w.anti le⟩))
    · have z3 : satS X G H (if ds.length = fl.length then .ex c (fl.zip ds).reverse S1 else .no) D := z2
      rw [if_neg hl] at z3
      exact z3.elim⟩
def spX1 (C : Addr) (f : Str) : Sp := fun vs H Q _ => ∃ (a : Addr) (y : V), vs = [.ref a, y] ∧ H a = some (exo a C none) ∧ ∀ d, H d = none → d ≠ a → Q .non (upd (upd H d (exd d [(f, y)])) a (exo a C (some d)))
end
section
variable {P : Program} {w : World} {K : PySem.W.Frag} {mg : Str → Option Value} {base : Heap} {x qual : Str} {st : Stmt} {kws : List (Str × V)} {fa C : Addr} {fd : FuncData} {u v1 v2 f g : Str} {p1 p2 p3 p4 p5 p6 p7 p8 : Pos}
theorem ok_x1 (F : FunD K x qual (defArgs st) (defBody st) (defScope st) [] kws fa fd) (Sc : FnScope [u, v1] [u, v1] (defScope st)) (hb : defBody st = [.Assign [.Attribute (.Name u p1) f p2] (.Name v1 p3) p4]) (T : OexC K C) (hn : PySem.W.findIn K (.ref C) f = some none)
    (vu : Vis (defScope st) u := by first | exact .inl rfl | exact .inr (.inl rfl)) (vv : Vis (defScope st) v1 := by first | exact .inl rfl | exact .inr (.inl rfl)) (d1 : (u == ("__debug__" : Str)) = false := by decide) (d2 : (u == ("__classdict__" : Str)) = false := by decide) (d3 : (v1 == ("__debug__" : Str)) = false := by decide) (d4 : (v1 == ("__classdict__" : Str)) = false := by decide)
    (hs : ∀ env, swapsWith (.Name v1 p3) (some (.Attribute (.Name u p1) f p2)) p4.line env = pure false := by intro _; rfl) : FnOk P w K mg base (L2.CX P w) 1 fa fd [u, v1] (spX1 C f) := by
  refine F.ok Sc (fun vs H Q E z => by obtain ⟨a, y, rfl, _⟩ := z; rfl) fun cdv A outer s H vs Q E hr z => ?_
  rw [hb]
  refine ⟨_, pss_one (ps_ost (f := f) (pe_var (i := 0) rfl vu d1 d2) (pe_var (i := 1) rfl vv d3 d4) (hs _)), ?_⟩
  obtain ⟨a, y, rfl, h1, h2⟩ := z
  exact ⟨y, rfl, .ref a, rfl, a, C, rfl, T, hn, .inl ⟨h1, h2⟩⟩
end
end PV
set_option Elab.async false
set_option linter.all false
set_option maxRecDepth 100000
set_option maxHeartbeats 4000000
namespace PV
open PySem PySem.Spec PyProof.Rows L2 ZL
section
variable {X : Cx} {c : String} {e : Expr} {es : List Expr} {p pos pos' : Pos} {ms : MA} {fI : Addr} {fd : FuncData} {ps : List Str}
theorem raised_xd {G1 : Gh} {S1 : Sto} {H1 : Hp} {C a d : Addr} {ws : List (Str × V)} {o1 o2 : HO} {G : Gh} (ha : H1 a = none) (hd : upd H1 a o1 d = none) (hda : d ≠ a) (H2 : Hp) (e2 : ∀ b, b ≠ a → b ≠ d → H2 b = H1 b) : upd (L2.del H2 a) d (.xd ws) = upd H1 d (.xd ws) := by
  funext b
  by_cases q : b = d
  · rw [q, upd_same, upd_same]
  · rw [upd_ne q, upd_ne q]
    by_cases q2 : b = a
    · rw [q2, del_same, ha]
    · rw [del_ne q2, e2 b q2 q]
theorem wEx_xd {G1 : Gh} {S1 : Sto} {H1 : Hp} {d : Addr} {ws : List (Str × V)} {fs : List (String × D)} (sm : Sm X.K G1 S1 H1) (hd : H1 d = none) (r : Rpf X.K G1 fs ws) : wEx X.K G1 H1 c fs S1 (.ref (gaS X.K c)) (some d) (upd H1 d (.xd ws)) :=
  ⟨G1.put d (.xd ws), Stp.put sm hd, sm.put hd, rfl, .inr ⟨d, ws, rfl, upd_same, r.mono (Gh.put_le (sm.free hd))⟩⟩
theorem qs_rai1 {f : String} (hc : X.calm = true) (T : OexC X.K (gaS X.K c)) (iC : PySem.W.findIn X.K (.ref (gaS X.K c)) "__init__" = some (some (.ref fI))) (tI : PySem.W.typeIn X.K (.ref fI) = some (.type "function"))
    (F1 : FnOk X.prog X.w X.K X.mg X.base (L2.CX X.prog X.w) 1 fI fd ps (spX1 (gaS X.K c) (Str.ofString f))) (hr : Room 2 X.A) (hb : Binds X.K fd ps []) (hm : X.mg (Str.ofString c) = some (.ref (gaS X.K c))) (ha : QA X (e :: es) ms)
    (hg : Gl X (Str.ofString c) := by rfl) (hdb : (Str.ofString c == ("__debug__" : Str)) = false := by decide) (he : starEach (e :: es) X.env = (false, eval e X.env) :: starEach es X.env := by rfl) (hpl : (backTo pos (starEach es X.env)).any (·.1) = false := by rfl) :
    QS X (.Raise (some (.Call (.Name (Str.ofString c) p) (e :: es) [] pos)) none pos') (sRai c [f] ms) :=
  qs_rai_of hc (pmk_oex T iC tI F1 hr hb .nil (passes_call (LamX.takes0 (X := X)) fun _ _ _ _ z => z) hg hm ha hdb he hpl) fun ρ S G σ H W sm re h => by
    refine ⟨ρ, S, G, sm, re, h.imp fun vs H1 w => ?_⟩
    obtain ⟨ds, S1, G1, le, sm1, r, hl, hw⟩ := w
    match ds, hl, r, hw with
    | [d0], _, .cons (v := v0) r0 .nil, hw =>
      refine ⟨by simp, fun a na => ⟨a, v0, rfl, upd_same, fun d hd hda => ⟨rfl, d, [(Str.ofString f, v0)], upd_same, by rw [upd_ne hda]; exact upd_same, by rw [upd_ne hda] at hd; exact hd, ?_⟩⟩⟩
      rw [raised_xd (G1 := G1) (S1 := S1) (C := 0) (G := G) (o2 := .own 0) na hd hda _ fun b q1 q2 => by rw [upd_ne q1, upd_ne q2, upd_ne q1]]
      rw [upd_ne hda] at hd
      exact hw _ _ _ (wEx_xd sm1 hd (.cons r0 .nil))
theorem pmk_own0 {C : Addr} {bmB : List Value} {B newId initId : String} {x : Str} (F : ExcBaseFacts B newId initId bmB) (q : PySem.W.excIn X.K C bmB newId = true) (gC : X.mg x = some (.ref C)) (kC : PySem.W.keepIn X.K (.ref C) = true) (r : Raises X (.ref C)) (hg : Gl X x) (hdb : (x == ("__debug__" : Str)) = false) :
    PMk X (.Call (.Name x p) [] [] pos) (fun _ H Q => Q (.ref C) none H) := by
  intro pins s σ H Q I h
  refine wpAny_Call_Name_kw (ld_glob I hg gC ?_ hdb)
  refine PySem.W.callWith_K0 (K := X.K) I.kIn kC ?_
  show wpAny _ _ (call (.ref C) []) _ _ _
  obtain ⟨bm, N, nm, qn, bs, hdct, sn, sub, ab, col, dd, k0, k1, k2, k3, k5, mN, hC, hN, hni, T⟩ := exc_obj I.kIn q
  refine wpAny_call_exc_subT F T hC hN hni (fun h' e hm => mk_of I hm r h (I.hok.gone hm.new)) (Nat.zero_le _)
theorem qs_rai0 (hc : X.calm = true) (q : PySem.W.excIn X.K (gaS X.K c) PySem.HandSPX.veTail "ValueError.__new__" = true) (k : XC X.K (gaS X.K c)) (hm : X.mg (Str.ofString c) = some (.ref (gaS X.K c)))
    (hg : Gl X (Str.ofString c) := by rfl) (hdb : (Str.ofString c == ("__debug__" : Str)) = false := by decide) : QS X (.Raise (some (.Call (.Name (Str.ofString c) p) [] [] pos)) none pos') (sRai c [] aNil) :=
  qs_rai_of hc (pmk_own0 F.excBase_ValueError q hm k.kp (raises_own k.ex k.ty) hg hdb) fun ρ S G σ H W sm re h => by
    have h2 : sat X (Rps X.K) G H (.ok [] S) _ := h
    obtain ⟨ds, S1, G1, le, sm1, r, hl, hw⟩ := h2 G H [] .refl sm .nil
    cases r
    exact hw _ _ _ ⟨G1, .refl, sm1, rfl, .inl ⟨rfl, rfl⟩⟩
end
end PV
set_option Elab.async false
set_option linter.all false
set_option maxRecDepth 100000
set_option maxHeartbeats 4000000
namespace PV
open PySem PySem.Spec PyProof.Rows L2 ZL
abbrev Hrd := Out D → Sto → Out D
def lamc (h : Hrd) (m : ME) : ME := fun ρ S => match h (m ρ S) S with
  | .ok d S1 => .ok d S1
  | _ => .no
noncomputable def hrA (n j : Nat) (errs : List String) (rest : MS) : Hrd := fun o S => match o with
  | .ok d S1 => gcO S (.ok (.lst [d]) S1)
  | .ex c fs S1 => if errs.contains c = true then gcO S (fin (rest ((List.replicate n none).set j (some (.exc c fs))) S1)) else .no
  | .no => .no
def TTh (K : PySem.W.Frag) (h : Hrd) : (XK → Hp → VK → Prop) → Hp → VK → Prop := fun tl H Q => ∃ G S o, Sm K G S H ∧ (∀ G' H', Stp G H G' H' → Sm K G' S H' → ∀ Q' E, spO K G' H' o Q' E → tl E H' Q') ∧ spO K G H (h o S) Q fun _ _ _ => False
theorem Re.skips {K : PySem.W.Frag} {G : Gh} : ∀ (σ : L2.St), Re K G (List.replicate σ.length none) σ
  | [] => .nil
  | _ :: σ => .skp (Re.skips σ)
theorem Re.forget' {K : PySem.W.Frag} {G : Gh} {ρ : Ev} {σ : L2.St} (h : Re K G ρ σ) (i : Nat) (e : ρ[i]? = some none ∨ ρ[i]? = none) : Re K G ρ (σ.set i none) := by
  induction h generalizing i with
  | nil => exact .nil
  | skp t ih =>
    cases i with
    | zero => exact .skp t
    | succ i => exact .skp (ih i (by simpa using e))
  | has q t ih =>
    cases i with
    | zero => simp at e
    | succ i => exact .has q (ih i (by simpa using e))
section
variable {X : Cx} {Ng : List Str} {x a n y lx q : Str} {sg : Scope} {g CL : Addr} {cdg : Value} {bg rest : List Stmt} {mr : MS} {errs : List String} {i j k : Nat} {p1 p2 p3 p4 p5 p6 p7 p8 p9 p10 p11 p12 p13 p14 p15 p16 p17 : Pos} {jn jn' : Nat} {kt kt'}
abbrev Hfr (X : Cx) (Ng : List Str) (x : Str) (sg : Scope) (g : Addr) (cdg : Value) (s : Shared) (H : Hp) : Cx := (cxOf C8.CX0 X.prog X.w X.K X.mg X.base Ng x sg g cdg X.A X.stack s H C8.E0).nox
theorem hrd_caught {Z : Cx} {G : Gh} {S S1 : Sto} {H : Hp} {Q : VK} {c : String} {fs : List (String × D)} (sm : Sm Z.K G S H) (hz : mr = mr) (hm : ∀ c ∈ errs, PySem.W.exmOne Z.K (.ref (gaS Z.K c)) (.ref CL) = some true) (hij : i ≠ j) (hjn : j < Z.N.length)
    (h : spO Z.K G H (if errs.contains c = true then gcO S (fin (mr ((List.replicate Z.N.length none).set j (some (.exc c fs))) S1)) else .no) Q fun _ _ _ => False) (cls : Value) (dd : Option Addr) (σ : L2.St) (H' : Hp) (w : wEx Z.K G H c fs S1 cls dd H') :
    PySem.W.exmOne Z.K cls (.ref CL) = some true ∧ wKeep Z.N.length i j { nx := tS Z mr { nx := fun _ H' => Q .non H', rt := Q }, rt := Q } cls dd σ H' := by
  by_cases hc : errs.contains c = true
  · rw [if_pos hc] at h
    obtain ⟨G', st, sm', ec, hd⟩ := w
    subst ec
    refine ⟨hm c (List.contains_iff_mem.mp hc), fun hl b hb => ?_⟩
    have st2 := Stp.put (o := ExV (.ref (gaS Z.K c)) dd b) sm' hb
    have r : Rp Z.K (G'.put b (ExV (.ref (gaS Z.K c)) dd b)) (.exc c fs) (.ref b) := by
      rcases hd with ⟨rfl, rfl⟩ | ⟨d, ws, rfl, h1, h2⟩
      · exact .exc0 upd_same
      · exact .exc upd_same (st2.le.1 _ _ h1) (h2.mono st2.le)
    refine ⟨_, S1, _, sm'.put hb, ?_, sat_body rfl (LamX.takes0 (X := Z)) ((spO_gc sm h).mono (st.trans st2))⟩
    refine Re.forget' ((hl ▸ Re.skips σ).set j r) i ?_
    rw [List.getElem?_set_ne (Ne.symm hij)]
    by_cases hi : i < Z.N.length
    · exact .inl (by simp [hi])
    · exact .inr (by simp [Nat.le_of_not_lt hi])
  · rw [if_neg hc] at h
    exact h.elim
def tAct (f c' : Addr) (q : Str) (tl : XK → Hp → VK → Prop) (after : Ends → L2.St → VK) : WX → TS := fun W D σ H => ∃ Ech : XK, (∀ cls d σ' H', Ech cls d H' → W cls d σ' H') ∧ σ[0]? = some (some (.ref f)) ∧ H c' = some (LamX.CodeO c' q) ∧ tl Ech H (after D σ)
theorem hrd_ask {Z : Cx} {f c' : Addr} {q : Str} {tl : XK → Hp → VK → Prop} {after : Ends → L2.St → VK} {σ : L2.St} {H : Hp} {Q : VK} {G : Gh} {S : Sto} {o : Out D} {h : Hrd} {D : Ends} (sm : Sm Z.K G S H) (htl : ∀ Q' E, spO Z.K G H o Q' E → tl E H Q')
    (hD : D = { nx := tS Z mr { nx := fun _ H' => Q .non H', rt := Q }, rt := Q }) (hm : ∀ c ∈ errs, PySem.W.exmOne Z.K (.ref (gaS Z.K c)) (.ref CL) = some true) (hij : i ≠ j) (hjn : j < Z.N.length)
    (hx : ∀ c fs S1, h (.ex c fs S1) S = if errs.contains c = true then gcO S (fin (mr ((List.replicate Z.N.length none).set j (some (.exc c fs))) S1)) else .no) (hn : h .no S = .no)
    (hok : ∀ d S1, o = .ok d S1 → spO Z.K G H (h (.ok d S1) S) Q (fun _ _ _ => False) → ∀ G' H' v, Stp G H G' H' → Sm Z.K G' S1 H' → Rp Z.K G' d v → after D σ v H')
    (h1 : σ[0]? = some (some (.ref f))) (h2 : H c' = some (LamX.CodeO c' q)) (hs : spO Z.K G H (h o S) Q fun _ _ _ => False) :
    tAct f c' q tl after (fun cls dd σ H => PySem.W.exmOne Z.K cls (.ref CL) = some true ∧ wKeep Z.N.length i j D cls dd σ H) D σ H := by
  cases o with
  | no => rw [hn] at hs; exact hs.elim
  | ok d S1 => exact ⟨fun _ _ _ => False, fun _ _ _ _ z => z.elim, h1, h2, htl _ _ (hok d S1 rfl hs)⟩
  | ex c fs S1 =>
    rw [hx] at hs
    refine ⟨fun cls dd H' => wEx Z.K G H c fs S1 cls dd H', fun cls dd σ' H' w => ?_, h1, h2, htl _ _ fun cls dd H' w => w⟩
    rw [hD]
    exact hrd_caught (mr := mr) sm rfl hm hij hjn hs cls dd σ' H' w
variable {Q : VK}
theorem gives_A (hN : Ng.Nodup) (hj : Ng[j]? = some y) (hi : Ng[i]? = some n) (hij : i ≠ j) (hj0 : j ≠ 0) (h0 : ∀ f : Addr, (L2.start Ng [V.ref f])[0]? = some (some (V.ref f))) (hlen : ∀ f : Addr, (L2.start Ng [V.ref f]).length = Ng.length) (hln : sg.names.lookup n = some .local) (hly : sg.names.lookup y = some .local)
    (hlx : sg.names.lookup lx = some .globalImplicit) (hme : X.mg lx = some (.ref CL)) (hde : (lx == ("__debug__" : Str)) = false) (hdn : (n == ("__debug__" : Str)) = false) (hcn : (n == ("__classdict__" : Str)) = false)
    (hm : ∀ c ∈ errs, PySem.W.exmOne X.K (.ref (gaS X.K c)) (.ref CL) = some true) (hrest : ∀ s H, QSs (Hfr X Ng x sg g cdg s H) rest mr)
    (hsw : ∀ env, swapsWith (.Constant .none jn p2) (some (.Name y p1)) p3.line env = pure false) (hsw2 : ∀ env, swapsWith (.Name n p9) (some (.Name y p10)) p11.line env = pure false)
    (hst : ∀ (Z : Cx), starEach [Expr.Call (.Name a p4) [] [] p5] Z.env = [(false, eval (.Call (.Name a p4) [] [] p5) Z.env)]) :
    LamX.GivesTo X Ng x sg g cdg (.Assign [.Name y p1] (.Constant .none jn p2) p3 :: .Try [.Return (some (.List [.Call (.Name a p4) [] [] p5] p6)) p7] [.ExceptHandler (some (.Name lx p12)) (some n) [.Assign [.Name y p10] (.Name n p9) p11] p13] [] [] p8 :: rest) a q (TTh X.K (hrA Ng.length j errs mr)) := by
  intro f c' s H Q tl act hc htt
  obtain ⟨G, S, o, sm, htl, hs⟩ := htt
  have hjl : j < Ng.length := (List.getElem?_eq_some_iff.mp hj).1
  refine ⟨_, pss_cons (ps_set (X := Hfr X Ng x sg g cdg s H) (i := j) hN hj (.inl hly) pe_non (hsw _) (.inl rfl)) (pss_cons (ps_try_keep (X := Hfr X Ng x sg g cdg s H) (i := i) (j := j) (c := .ref CL)
    (tb := tAct f c' q tl fun D σ v H1 => [v].length ≤ sizeLine ∧ ∀ p, H1 p = none → D.rt (.ref p) (upd H1 p (.lst [v])))
    rfl rfl hN hi hj hij hln hly ⟨hlx, hde, .inl hme⟩ (fun b z => nomatch (show b ∈ ([] : List Addr) from z)) hdn hcn (hsw2 _) fun W pn xe tk _ => ?_) (hrest s H)), ?_⟩
  · refine ⟨fun pins s' σ H' D I h' => ?_⟩
    obtain ⟨Ech, hW, h1, h2, h3⟩ := h'
    have hp := act W pn xe Ech p4 p5 tk hW
    exact (pss_one (ps_ret (pos := p7) (pe_lst (pos := p6) (pa_cons hp pa_nil (hst _))))).run pins s' σ H' D I ⟨h1, h2, h3⟩
  · refine hrd_ask (Z := Hfr X Ng x sg g cdg s H) (f := f) (σ := (L2.start Ng [V.ref f]).set j (some V.non)) (after := fun D σ v H1 => [v].length ≤ sizeLine ∧ ∀ p, H1 p = none → D.rt (.ref p) (upd H1 p (.lst [v]))) (mr := mr) (h := hrA Ng.length j errs mr) (i := i) (j := j) (CL := CL) (errs := errs) (Q := Q) (G := G) (S := S) (o := o) sm (htl G H .refl sm) rfl hm hij hjl (fun c fs S1 => rfl) rfl (fun d S1 ho hs G' H' v st sm' r => ?_) ?_ hc hs
    · refine ⟨by rw [sizeLine_eq, List.length_singleton]; decide, fun p hp => ?_⟩
      exact (spO_gc sm (show spO X.K G H (gcO S (.ok (.lst [d]) S1)) Q _ from hs)) (G'.put p (.lst [v])) _ _ (st.trans (Stp.put sm' hp)) (sm'.put hp) (.lst upd_same (.cons (r.mono (Gh.put_le (sm'.free hp))) .nil))
    · show ((L2.start Ng [V.ref f]).set j (some V.non))[0]? = _
      rw [List.getElem?_set_ne hj0]
      exact h0 f
end
theorem Sm.grown {K : PySem.W.Frag} {G : Gh} {S : Sto} {H H1 : Hp} (m : Sm K G S H) (e : LamX.ExtN H H1) (t : LamX.Tabs (tbs K) H1) : Sm K G S H1 where
  fr := fun a o h => e a o (m.fr a o h) (m.nt a o h)
  cel := fun n c h nd => by
    obtain ⟨a, h1, h2, h3⟩ := m.cel n c h nd
    refine ⟨a, h1, h2, h3.mono .refl fun o q => e a o q ?_⟩
    obtain ⟨u, q1, q2, _⟩ := h3.hard nd
    rw [q] at q1
    cases q1
    exact q2
  dom := m.dom
  inj := m.inj
  dn := fun n a h => let ⟨o, z, y⟩ := m.dn n a h; ⟨o, e _ _ z y, y⟩
  nt := m.nt
  tb := t
theorem Stp.grown {G : Gh} {H H1 : Hp} (e : LamX.ExtN H H1) : Stp G H G H1 := ⟨.refl, fun a o h n => ⟨o, e a o h n, n⟩, fun a o h n _ => e a o h n, fun _ _ h => .inl h, fun _ _ h => .inl h⟩
section
variable {X : Cx} {Ng : List Str} {x a : Str} {st : Stmt} {g : Addr} {fd : FuncData} {kws : List (Str × V)} {c P : Addr} {k : Nat} {params : Arguments} {body : Expr} {scope : Scope} {m : ME} {h : Hrd} {p lpos pos : Pos}
theorem qe_lam (hg : Gl X x) (hm : X.mg x = some (.ref g)) (hk : PySem.W.keepIn X.K (.ref g) = true) (F : FunD X.K x x (defArgs st) (defBody st) (defScope st) [] kws g fd) (Sg : FnScope Ng [a] (defScope st))
    (hb : ∀ (kV doc pm : Value) (an : Option Addr) (cdv ct : Value) (us : List Value), us.length = 1 → bindArgs (PySem.W.fnOf x x (defArgs st) (defBody st) (defScope st) .none kV doc pm an cdv ct) ⟨us, []⟩ = pure (([a] : List Str).zip us))
    (hNg : Ng[0]? = some a) (hva : Vis (defScope st) a) (hG : ∀ cdv, LamX.GivesTo X Ng x (defScope st) g cdv (defBody st) a (X.env.qual ++ "<lambda>") (TTh X.K h))
    (TB : LamX.TabB X.base X.mg c P) (hcode : X.env.code = .ref c) (hmT : (P, X.env.qual ++ "<lambda>") ∈ tbs X.K) (hu : ∀ p ∈ tbs X.K, p.1 = P → p.2 = X.env.qual ++ "<lambda>") (hr : Room (k + 2) X.A) (L : LamX.LamS X.env.scope scope) (hdef : defaultsOf params X.env = ([], []))
    (hbind : ∀ (q : Str) (cl : List (Str × Addr)) (pm cv ctv : Value), bindArgs (PySem.W.kla_fn "<lambda>" q params body scope cl pm cv ctv) ⟨[], []⟩ = pure [])
    (hbody : ∀ (A : Around) (outer : List Env) (s : Shared) (H : Hp) (E : XK) (f c' : Addr), Room k (A.deeper (LamX.lamEnv X scope s.heap.objs.size f c')) → QE (LamX.lamCx X A outer s H E scope f c') body m)
    (hdb : (x == ("__debug__" : Str)) = false := by decide) (hd : (a == ("__debug__" : Str)) = false := by decide) (hcd : (a == ("__classdict__" : Str)) = false := by decide) :
    QE X (.Call (.Name x p) [.Lambda params body scope lpos] [] pos) (lamc h m) := by
  obtain ⟨oc, od, dV, kV, doc, pm, an, cdv, ct, osl, e, lk, hcg, hD, -⟩ := id F.ex
  have dN : dV = .none := by
    rcases hD with ⟨_, q⟩ | ⟨q, _⟩
    · exact q
    · exact absurd rfl q
  subst dN
  subst e
  have lam := LamX.pe_lamcall (X := X) (T := tbs X.K) (TT := TTh X.K h) (t := fun E σ H Q' => ∃ ρ S G, Sm X.K G S H ∧ Re X.K G ρ σ ∧ spO X.K G H (m ρ S) Q' E) (p := p) (lpos := lpos) (pos := pos) hg hm hk lk hcg (F.bindsN hb) Sg hNg hva (hG cdv) TB hcode hmT hu hr L hdef hbind
    (fun A outer s H E f c' hr2 => ⟨fun pins s2 σ H2 Q I ⟨ρ, S, G, sm, re, z⟩ => (hbody A outer s H E f c' hr2).run pins s2 σ H2 Q I ⟨ρ, S, G, sm, re, by
      cases q : m ρ S with
      | ok d S1 => rw [q] at z; exact z
      | no => rw [q] at z; exact z.elim
      | ex c1 fs S1 =>
        rw [q] at z
        exact (takes_of (X := LamX.lamCx X A outer s H E scope f c') rfl rfl rfl rfl).imp fun cls dd _ H' w => z cls dd H' w⟩⟩) hdb hd hcd
  exact qe_of lam fun ρ S G σ H Q sm re z => by
    refine ⟨sm.tb, fun H1 e1 t1 => ⟨G, S, m ρ S, sm.grown e1 t1, fun G2 H2 st2 sm2 Q' E w => ⟨ρ, S, G2, sm2, re.mono st2.le, w⟩, ?_⟩⟩
    have z2 : sat X (Rp X.K) G H (match h (m ρ S) S with | .ok d S1 => .ok d S1 | _ => .no) Q := z
    cases q : h (m ρ S) S with
    | ok d S1 =>
      rw [q] at z2
      exact fun G' H' v st sm' r => z2 G' H' v ((Stp.grown e1).trans st) sm' r
    | ex c1 fs S1 => rw [q] at z2; exact z2.elim
    | no => rw [q] at z2; exact z2.elim
end
end PV
set_option Elab.async false
set_option linter.all false
set_option maxRecDepth 100000
set_option maxHeartbeats 4000000
namespace PV
open PySem PySem.Spec PyProof.Rows L2 ZL
theorem run_ok {np n : Nat} {b : MS} {ds : List D} {S S' : Sto} {d : D} (hl : ds.length = np) (hS : S'.length = S.length) (h : fin (b (ds.map some ++ List.replicate (n - np) none) S) = .ok d S') : dfn np n b ds S = .ok d S' := by
  unfold dfn
  rw [if_pos hl, h, gc_len hS]
theorem toPs_ints : ∀ ns : List Int, toPs (ns.map .int) = some (ns.map .int)
  | [] => by rw [List.map_nil, List.map_nil, toPs]
  | n :: ns => by rw [List.map_cons, toPs, toPs_ints ns, toP]; rfl
theorem belows_ints (m : Nat) : ∀ ns : List Int, belows m (ns.map .int) = true
  | [] => rfl
  | n :: ns => by rw [List.map_cons, belows, belows_ints m ns]; rfl
theorem any_ints (n : Int) : ∀ ms : List Int, ((ms.map PyData.int).any fun q => PyData.eqv q (.int n)) = decide (n ∈ ms)
  | [] => by simp
  | m :: ms => by
    rw [List.map_cons, List.any_cons, any_ints n ms, PyData.eqv]
    by_cases h : n = m
    · subst h; simp
    · have h' : (m == n) = false := by simpa using fun e => h e.symm
      rw [h']
      simp [h]
theorem flat_ints : ∀ ns : List Int, ((ns.map PyData.int).all inD.flat) = true
  | [] => rfl
  | n :: ns => by rw [List.map_cons, List.all_cons, flat_ints ns]; rfl
end PV
set_option Elab.async false
set_option linter.all false
set_option maxRecDepth 100000
set_option maxHeartbeats 4000000
namespace PV
open PySem PySem.Spec PyProof.Rows L2 ZL
theorem shaped_int (n : Int) : SeqAt.shaped (.int n) = true := by simp [SeqAt.shaped, PyData.canLay0, PyData.depth]
theorem eqD_int (n m : Int) : eqD (.int n) (.int m) = some (decide (n = m)) := by
  simp [eqD, eqP, toP, shaped_int, PyData.eqv]
  by_cases h : n = m
  · subst h; simp
  · simp [h]
def penC (cs : List Int) (a r : Int) : Cell := .lst [.lst (cs.map .int), .int a, .int r]
def Pen (S : Sto) (p : Nat) (B : Int) : Prop := ∃ cs a r, S[p]? = some (penC cs a r) ∧ cs.length ≤ 63 ∧ 0 ≤ a ∧ a ≤ B
theorem Pen.mono {S : Sto} {p : Nat} {B B' : Int} (h : Pen S p B) (hb : B ≤ B') : Pen S p B' := by
  obtain ⟨cs, a, r, h1, h2, h3, h4⟩ := h
  exact ⟨cs, a, r, h1, h2, h3, by omega⟩
theorem Pen.lt {S : Sto} {p : Nat} {B : Int} (h : Pen S p B) : p < S.length := by
  obtain ⟨cs, a, r, h1, _⟩ := h
  exact (List.getElem?_eq_some_iff.mp h1).1
theorem Pen.app {S T : Sto} {p : Nat} {B : Int} (h : Pen S p B) : Pen (S ++ T) p B := by
  have hl := h.lt
  obtain ⟨cs, a, r, h1, h2⟩ := h
  exact ⟨cs, a, r, by rw [List.getElem?_append_left hl]; exact h1, h2⟩
def SamePen (p : Nat) (S S' : Sto) : Prop := ∃ cs a r, S' = S.set p (penC cs a r)
theorem SamePen.refl {p : Nat} {S : Sto} {B : Int} (h : Pen S p B) : SamePen p S S := by
  have hl := h.lt
  obtain ⟨cs, a, r, h1, _⟩ := h
  refine ⟨cs, a, r, ?_⟩
  obtain ⟨_, h2⟩ := List.getElem?_eq_some_iff.mp h1
  rw [← h2]
  simp
theorem SamePen.trans {p : Nat} {S S' S'' : Sto} (h : SamePen p S S') (h' : SamePen p S' S'') : SamePen p S S'' := by
  obtain ⟨cs, a, r, rfl⟩ := h
  obtain ⟨cs', a', r', rfl⟩ := h'
  exact ⟨cs', a', r', by rw [List.set_set]⟩
theorem SamePen.len {p : Nat} {S S' : Sto} (h : SamePen p S S') : S'.length = S.length := by
  obtain ⟨cs, a, r, rfl⟩ := h
  rw [List.length_set]
theorem SamePen.get {p m : Nat} {S S' : Sto} (h : SamePen p S S') (hm : m ≠ p) : S'[m]? = S[m]? := by
  obtain ⟨cs, a, r, rfl⟩ := h
  rw [List.getElem?_set_ne (Ne.symm hm)]
theorem divOk_small {j : Int} (h : 0 < j) (h' : j < 2 ^ 120) : divOk j = true := by
  unfold divOk
  have : j.natAbs.log2 < 120 := PySem.Flt.log2_lt_of (by decide) (by omega)
  simp [h]
  omega
theorem mulOk_l {i j : Int} (h : -(2 ^ 64) < i) (h' : i < 2 ^ 64) : mulOk i j = true := by
  unfold mulOk
  rw [decide_eq_true ⟨h, h'⟩]
  rfl
theorem powOk_of {i j : Int} (h : 0 ≤ j) (h' : j ≤ 1000000) (hi : i.natAbs < 2 ^ 64) : powOk i j = true := by
  unfold powOk
  rw [decide_eq_true h, decide_eq_true h', decide_eq_true hi]
  rfl
end PV
set_option Elab.async false
set_option linter.all false
set_option maxRecDepth 100000
set_option maxHeartbeats 4000000
namespace PV
open PySem PySem.Spec PyProof.Rows
theorem cal_ok {F : Fn} {a : MA} {ρ : Ev} {S S1 : Sto} {ds : List D} {o : Out D} (h1 : a ρ S = .ok ds S1) (h3 : F ds S1 = o) : cal F a ρ S = o := by
  unfold cal
  rw [h1]
  exact h3
theorem cons_ok {e : ME} {a : MA} {ρ : Ev} {S S1 S2 : Sto} {x : D} {ds : List D} (h1 : e ρ S = .ok x S1) (h2 : a ρ S1 = .ok ds S2) : aCons e a ρ S = .ok (x :: ds) S2 := by
  unfold aCons
  rw [h1]
  show (a ρ S1).bind _ = _
  rw [h2]
  rfl
theorem eqD_str (a b : Str) : eqD (.str a) (.str b) = some (decide (a = b)) := rfl
end PV
set_option Elab.async false
set_option linter.all false
set_option maxRecDepth 100000
set_option maxHeartbeats 4000000
namespace PV
open PySem PySem.Spec PyProof.Rows
theorem sli_ok {m : ME} {l h : MO} {ρ : Ev} {S S1 S2 S3 : Sto} {x : D} {lo hi : Option Int} {r : Out D} (h1 : m ρ S = .ok x S1) (h2 : l ρ S1 = .ok lo S2) (h3 : h ρ S2 = .ok hi S3) (h4 : slG x lo hi S3 = r) : sli m l h ρ S = r := by
  unfold sli
  rw [h1]
  show (l ρ S1).bind _ = _
  rw [h2]
  show (h ρ S2).bind _ = _
  rw [h3]
  exact h4
theorem near62_of {j : Int} (h : 0 ≤ j) (h2 : j ≤ 1000000) : near62 j = true := by
  unfold near62
  exact decide_eq_true (by omega)
end PV
set_option Elab.async false
set_option linter.all false
set_option maxRecDepth 100000
set_option maxHeartbeats 4000000
namespace PV
open PySem PySem.Spec PyProof.Rows
theorem Pen.set {S : Sto} {p m : Nat} {B : Int} {c : Cell} (h : Pen S p B) (hm : m ≠ p) : Pen (S.set m c) p B := by
  obtain ⟨cs, a, r, h1, h2⟩ := h
  exact ⟨cs, a, r, by rw [List.getElem?_set_ne hm]; exact h1, h2⟩
theorem cut63 {α : Type} (cs : List α) (h : cs.length ≤ 63) : cutD cs none (some 63) = cs := by
  refine cutD_whole ⟨rfl, ?_⟩
  unfold HT.sIx
  simp only [show ¬ ((63 : Int) < 0) by decide, if_false]
  exact Nat.min_eq_right h
end PV
set_option Elab.async false
set_option linter.all false
set_option maxRecDepth 100000
set_option maxHeartbeats 4000000
namespace ZL
open PySem PySem.Spec PyProof.Rows L2
section
variable {P : Program} {w : World} {K : PySem.W.Frag} {mg mb : Str → Option Value} {k : Nat} {fa a : Addr} {sp : Sp} {s₁ : Shared} {vs : List Value} {ns : List Int} {cs : List (Addr × Addr)} {H : Hp}
abbrev tabsOf (cs : List (Addr × Addr)) : List Addr := cs.map (·.2)
def OnlyT (cs : List (Addr × Addr)) (H : Hp) : Prop := ∀ b, H b = none ∨ (b ∈ tabsOf cs ∧ H b = some (.tbl #[])) ∨ ∃ o xs, H b = some (.frz o (.lst xs))
theorem ended_ofT (C : ∀ p ∈ cs, PySem.W.CodeHd s₁.heap p.1 p.2) (hO : OnlyT cs H) (hok : HOk P w H s₁.heap) {r : Except Value Flow} {s' : Shared} (h : CR CX0 [] P w H s₁ (fun v _ => v = .bl true) (fun _ _ _ => False) r s') : ended s₁ r s' := by
  match r, h with
  | .error _, h => exact False.elim h
  | .ok .next, h => exact False.elim h
  | .ok .brk, h => exact False.elim h
  | .ok .cont, h => exact False.elim h
  | .ok (.ret u), h =>
    obtain ⟨v, H', os, bare, un, hok', r', q⟩ := h
    have q' : v = .bl true := q
    subst q'
    have r2 : u = Value.bool true := r'
    have two : ∀ b o, s₁.heap.get? b = some o → s'.heap.get? b = some o ∨ (b ∈ tabsOf cs ∧ o = { cls := .none, data := .fields #[] } ∧ ∃ more : Array Value, s'.heap.get? b = some { cls := .none, data := .fields more }) := fun b o e => by
      rcases hO b with z | ⟨zm, z⟩ | ⟨ob, xs, z⟩
      · exact .inl (un.keep b o e z (fun y => nomatch y) (fun y => nomatch y))
      · have e1 : s₁.heap.get? b = some { cls := .none, data := .fields #[] } := hok b _ z
        rw [e] at e1
        obtain ⟨more, zz⟩ := un.tbls b #[] z
        exact .inr ⟨zm, Option.some.inj e1, _, hok' b _ zz⟩
      · have e1 := (hok b _ z).1
        rw [e] at e1
        exact .inl (by rw [Option.some.inj e1]; exact (hok' b _ (un.frzs b ob _ z)).1)
    refine ⟨by rw [r2], ⟨fun b o e => ?_, fun b o e => ?_⟩, os, bare⟩
    · rcases two b o e with z | ⟨zm, ze, more, z⟩
      · exact .inl z
      · subst ze
        obtain ⟨p, hp, rfl⟩ := List.mem_map.mp zm
        exact .inr (.inl ⟨((C p hp).tab e).isCodeTable, rfl, #[], more, rfl, by rw [Array.empty_append]; exact z⟩)
    · rcases two b o e with z | ⟨_, _, more, z⟩
      · exact ⟨o, z⟩
      · exact ⟨_, z⟩
theorem lawT_core (KX : K.In s₁.heap) (hns : s₁.heap.Ns mainGlobals mg) (hb : s₁.heap.Ns builtinsNs mb) (hbb : ∀ x : Str, x ≠ "__name__" → mb x = bootBuiltins x) (hlim : s₁.heap.NoLimit) (hg : s₁.gens = #[])
    (hbm : ∃ (bm : Addr) (ob : Obj), mg "__builtins__" = some (.ref bm) ∧ bm ≠ builtinsNs ∧ s₁.heap.get? bm = some ob ∧ ob.cls = .type "module" ∧ ob.dict = some builtinsNs ∧ ob.data = .plain) (C : ∀ p ∈ cs, PySem.W.CodeHd s₁.heap p.1 p.2) (hT : ∀ p ∈ cs, s₁.heap.get? p.2 = some { cls := .none, data := .fields #[] })
    (hr : Room k callerA) (F : ∀ base : Heap, K.In base → base.Ns mainGlobals mg → (∀ p ∈ cs, LamX.TabB base mg p.1 p.2) → FnRG P w K mg base CX0 k fa sp) (hO : OnlyT cs H) (hok : HOk P w H s₁.heap)
    (hK : ∀ b o, K.lookup b = some o → H b = none) (hD : ∀ b o es ep, s₁.heap.get? b = some o → o.data = .dict es ep → H b = none) (hC : ∀ b o, s₁.heap.get? b = some o → (o.cls = .type "code" ∨ o.cls = .type "module") → H b = none)
    (h : sp [.ref a] H (fun v _ => v = .bl true) fun _ _ _ => False) : codeAny (model P w) callerA (.call (.ref fa) ⟨[.ref a], []⟩) (ended s₁) s₁ := by
  have nsK : ∀ {b : Addr} {m : Str → Option Value}, s₁.heap.Ns b m → (hidT s₁.heap H).Ns b m := fun {b m} z => by
    obtain ⟨o, es, ep, e, d, r⟩ := z
    exact ⟨o, es, ep, hidT_get e (hD b o es ep e d), d, r⟩
  have hKb : K.In (hidT s₁.heap H) := fun b o e => hidT_get (KX b o e) (hK b o e)
  obtain ⟨mc, l1, l2⟩ := hlim
  have TB : ∀ p ∈ cs, LamX.TabB (hidT s₁.heap H) mg p.1 p.2 := fun p hp => by
    obtain ⟨bm, ob, b1, b2, b3, b4, b5, b6⟩ := id hbm
    obtain ⟨og, esg, epg, eg, dg, _⟩ := id hns
    have tp := hT p hp
    obtain ⟨oc, us, file, tf, flags, tg, inF, text, tt, c1, c2, c3⟩ := C p hp
    refine ⟨⟨oc, us, file, tf, flags, tg, inF, text, tt, hidT_get c1 (hC _ _ c1 (.inl c2)), c2, c3⟩, ⟨bm, ob, b1, b2, fun z => ?_, fun z => ?_, hidT_get b3 (hC _ _ b3 (.inr b4)), b4, b5, b6⟩, fun z => ?_⟩
    · rw [z, eg] at b3
      rw [Option.some.inj b3, b6] at dg
      cases dg
    · rw [z, tp] at b3
      rw [← Option.some.inj b3] at b6
      cases b6
    · rw [z, tp] at eg
      rw [← Option.some.inj eg] at dg
      cases dg
  have e0 : Env0 P w K mg (hidT s₁.heap H) callerA [] s₁ H := ⟨rfl, ⟨hKb, nsK hns, ⟨mb, nsK hb, hbb⟩, ⟨mc, nsK l1, l2⟩⟩, fun b o e => of_hidT e, Nat.le_of_eq (hidT_size _ _), trivial, fun b z => (nomatch (show b ∈ ([] : List Addr) from z)), hok, .of_eq hg⟩
  exact codeAny_mono (F _ hKb (nsK hns) TB callerA [] s₁ H [.ref a] [.ref a] _ _ rfl hr e0 (.cons rfl .nil) h) fun r s' z => ended_ofT C hO hok z
theorem law_callT (KX : K.In s₁.heap) (hns : s₁.heap.Ns mainGlobals mg) (hb : s₁.heap.Ns builtinsNs mb) (hbb : ∀ x : Str, x ≠ "__name__" → mb x = bootBuiltins x) (hlim : s₁.heap.NoLimit) (hg : s₁.gens = #[])
    (hbm : ∃ (bm : Addr) (ob : Obj), mg "__builtins__" = some (.ref bm) ∧ bm ≠ builtinsNs ∧ s₁.heap.get? bm = some ob ∧ ob.cls = .type "module" ∧ ob.dict = some builtinsNs ∧ ob.data = .plain) (C : ∀ p ∈ cs, PySem.W.CodeHd s₁.heap p.1 p.2) (hT : ∀ p ∈ cs, s₁.heap.get? p.2 = some { cls := .none, data := .fields #[] }) (nT : ∀ p ∈ cs, K.lookup p.2 = none)
    (ha : s₁.heap.get? a = some { cls := .type "list", data := .seq vs.toArray }) (hi : IntsAre vs ns) (hl : ns.length ≤ sizeLine) (hr : Room k callerA)
    (F : ∀ base : Heap, K.In base → base.Ns mainGlobals mg → (∀ p ∈ cs, LamX.TabB base mg p.1 p.2) → FnRG P w K mg base CX0 k fa sp)
    (hsp : ∀ H : Hp, (∀ p ∈ cs, H p.2 = some (.tbl #[])) → SqL K H a (ns.map V.int) → sp [.ref a] H (fun v _ => v = .bl true) fun _ _ _ => False) :
    codeAny (model P w) callerA (.call (.ref fa) ⟨[.ref a], []⟩) (ended s₁) s₁ := by
  have rv := vals_ints hi
  have isT : ∀ b ∈ tabsOf cs, s₁.heap.get? b = some { cls := .none, data := .fields #[] } ∧ K.lookup b = none := fun b hb => by
    obtain ⟨p, hp, rfl⟩ := List.mem_map.mp hb
    exact ⟨hT p hp, nT p hp⟩
  have aT : a ∉ tabsOf cs := fun z => by
    have q := (isT a z).1
    rw [ha] at q
    have := congrArg Obj.cls (Option.some.inj q)
    cases this
  let o : Obj := { cls := .type "list", data := .seq vs.toArray }
  have go : ∀ H : Hp, (∀ b ∈ tabsOf cs, H b = some (.tbl #[])) → (∀ b, b ∉ tabsOf cs → b ≠ a → H b = none) → (H a = none ∨ (H a = some (.frz o (.lst (ns.map V.int))) ∧ K.lookup a = none)) → SqL K H a (ns.map V.int) → codeAny (model P w) callerA (.call (.ref fa) ⟨[.ref a], []⟩) (ended s₁) s₁ := fun H h1 h2 h3 h4 => by
    have off : ∀ b, (∀ u, s₁.heap.get? b = some u → u.cls ≠ .none ∧ (b = a → False)) → (∃ u, s₁.heap.get? b = some u) → H b = none := fun b hb hu => by
      obtain ⟨u, hu⟩ := hu
      refine h2 b (fun z => ?_) fun z => (hb u hu).2 z
      have q := (isT b z).1
      rw [hu] at q
      exact (hb u hu).1 (by rw [Option.some.inj q])
    refine lawT_core (H := H) (cs := cs) KX hns hb hbb hlim hg hbm C hT hr F (fun b => ?_) (fun b u z => ?_) (fun b u z => ?_) (fun b u es ep e d => ?_) (fun b u e d => ?_) (hsp H (fun p hp => h1 _ (List.mem_map.mpr ⟨p, hp, rfl⟩)) h4)
    · by_cases q : b ∈ tabsOf cs
      · exact .inr (.inl ⟨q, h1 b q⟩)
      · by_cases q2 : b = a
        · subst q2
          rcases h3 with z | ⟨z, _⟩
          · exact .inl z
          · exact .inr (.inr ⟨_, _, z⟩)
        · exact .inl (h2 b q q2)
    · by_cases q : b ∈ tabsOf cs
      · rw [h1 b q] at z
        have z' := Option.some.inj z
        subst z'
        exact (isT b q).1
      · by_cases q2 : b = a
        · subst q2
          rcases h3 with y | ⟨y, _⟩
          · rw [y] at z
            cases z
          · rw [y] at z
            have z' := Option.some.inj z
            subst z'
            exact ⟨ha, by rw [List.length_map]; exact hl, vs, _, rv, ha⟩
        · rw [h2 b q q2] at z
          cases z
    · by_cases q : b ∈ tabsOf cs
      · rw [(isT b q).2] at z
        cases z
      · by_cases q2 : b = a
        · subst q2
          rcases h3 with y | ⟨_, y⟩
          · exact y
          · rw [y] at z
            cases z
        · exact h2 b q q2
    · by_cases q : b ∈ tabsOf cs
      · rw [(isT b q).1] at e
        rw [← Option.some.inj e] at d
        cases d
      · refine h2 b q fun z => ?_
        rw [z, ha] at e
        rw [← Option.some.inj e] at d
        cases d
    · by_cases q : b ∈ tabsOf cs
      · rw [(isT b q).1] at e
        rw [← Option.some.inj e] at d
        rcases d with d | d <;> cases d
      · refine h2 b q fun z => ?_
        rw [z, ha] at e
        rw [← Option.some.inj e] at d
        rcases d with d | d <;> simp [o] at d
  cases hk : K.lookup a with
  | some u =>
    have e := KX a u hk
    rw [ha] at e
    have e' := (Option.some.inj e).symm
    subst e'
    refine go (fun b => if b ∈ tabsOf cs then some (.tbl #[]) else none) (fun b q => if_pos q) (fun b q _ => if_neg q) (.inl (if_neg aT)) (.inr ⟨_, vs.toArray, _, hk, rfl, rfl, rfl, ?_, ?_⟩)
    · rw [List.size_toArray, hi.length]
      exact hl
    · simpa using rv
  | none =>
    refine go (fun b => if b = a then some (.frz o (.lst (ns.map V.int))) else if b ∈ tabsOf cs then some (.tbl #[]) else none) (fun b q => ?_) (fun b q1 q2 => ?_) (.inr ⟨if_pos rfl, hk⟩) (.inl (.inr ⟨o, if_pos rfl⟩))
    · exact (if_neg fun z => aT (by rw [← z]; exact q)).trans (if_pos q)
    · exact (if_neg q2).trans (if_neg q1)
theorem walk_ofT {l : PySem.W.OpenLaw} {n k : Nat} {q : Program} {loose : List Str} {XP : (Str → Option Value) → Heap → Prop} {YP : World → Heap → Prop} {d : DefRec}
    (hn : l.most = some n) (hn2 : n ≤ sizeLine) (hdf : d.params.defaults = []) (hr : Room k callerA)
    (F : ∀ (w : World) (mg : Str → Option Value) (fa : Addr) (h : Heap), YP w h → h.Ns mainGlobals mg → mg d.name = some (.ref fa) →
      ∃ (K : PySem.W.Frag) (cs : List (Addr × Addr)) (sp : Sp), K.In h ∧ (∀ p ∈ cs, PySem.W.CodeHd h p.1 p.2 ∧ h.get? p.2 = some { cls := .none, data := .fields #[] } ∧ K.lookup p.2 = none) ∧
        (∀ (H : Hp) (a : Addr) (ns : List Int), ns.length ≤ n → (∀ p ∈ cs, H p.2 = some (.tbl #[])) → SqL K H a (ns.map V.int) → sp [.ref a] H (fun v _ => v = .bl true) fun _ _ _ => False) ∧
        ∀ base : Heap, K.In base → base.Ns mainGlobals mg → (∀ p ∈ cs, LamX.TabB base mg p.1 p.2) → FnRG l.prog w K mg base CX0 k fa sp) :
    PySem.W.WalkO q loose XP YP l.row.toRowW d [] (fun f vs => PySem.call f vs) := by
  refine Att.attach_call hn hdf fun w s₀ s₁ mg mb fa o pm cd doc a vs ns G Y ho hd hcd hmg hobj hi hlen hg => ?_
  obtain ⟨K, cs, sp, KX, hcs, hsp, hF⟩ := F w mg fa _ Y G.T.g hmg
  exact law_callT KX G.T.g G.T.b G.T.builtins G.T.nolimit hg G.T.bmain (fun p hp => (hcs p hp).1) (fun p hp => (hcs p hp).2.1) (fun p hp => (hcs p hp).2.2) hobj hi (Nat.le_trans hlen hn2) hr hF fun H hH hS => hsp H a ns hlen hH hS
end
end ZL
set_option Elab.async false
set_option linter.all false
set_option maxRecDepth 100000
set_option maxHeartbeats 4000000
namespace PV
open PySem PySem.Spec PyProof.Rows L2 ZL
def spEnd (K : PySem.W.Frag) (F : Fn) : Sp := fun vs H Q _ => spF K F vs H Q fun _ _ _ => False
theorem end_of {P : Program} {w : World} {K : PySem.W.Frag} {mg : Str → Option Value} {base : Heap} {k : Nat} {f : Addr} {F : Fn} (h : FnFG P w K mg base k f F) : FnRG P w K mg base CX0 k f (spEnd K F) := fun A outer s H us vs Q E hgd hr e0 r z =>
  codeAny_mono (h A outer s H us vs Q (fun _ _ _ => False) hgd hr e0 r z) fun r s' c => by
    match r, c with
    | .ok (.ret u), c => exact c
    | .error e, c =>
      obtain ⟨_, _, _, _, _, _, _, _, _, _, _, _, hE⟩ := c
      exact hE.elim
theorem end_atT {K : PySem.W.Frag} {F : Fn} {H : Hp} {a : Addr} {ns : List Int} {S' : Sto} (hS : SqL K H a (ns.map V.int)) (hT : ∀ p ∈ tbs K, H p.1 = some (.tbl #[])) (h : F [.src (ns.map .int)] [] = .ok (.bl true) S') : spEnd K F [.ref a] H (fun v _ => v = .bl true) fun _ _ _ => False := by
  have hS2 : ∃ F0 : Hp, SqL K F0 a (ns.map V.int) ∧ (∀ b o, F0 b = some o → H b = some o) ∧ ∀ b o, F0 b = some o → NoT o := by
    rcases hS with (q | ⟨o, q⟩) | q
    · exact ⟨upd (fun _ => none) a (.lst _), .inl (.inl upd_same), (fun b o e => by
        by_cases z : b = a
        · rw [z, upd_same] at e; rw [z, q, ← e]
        · rw [upd_ne z] at e; cases e), (fun b o e => by
        by_cases z : b = a
        · rw [z, upd_same] at e; cases e; intro _ y; cases y
        · rw [upd_ne z] at e; cases e)⟩
    · exact ⟨upd (fun _ => none) a (.frz o (.lst _)), .inl (.inr ⟨o, upd_same⟩), (fun b o e => by
        by_cases z : b = a
        · rw [z, upd_same] at e; rw [z, q, ← e]
        · rw [upd_ne z] at e; cases e), (fun b o e => by
        by_cases z : b = a
        · rw [z, upd_same] at e; cases e; intro _ y; cases y
        · rw [upd_ne z] at e; cases e)⟩
    · exact ⟨fun _ => none, .inr q, (fun b o e => by cases e), (fun b o e => by cases e)⟩
  obtain ⟨F0, q1, q2, q3⟩ := hS2
  refine ⟨[.src (ns.map .int)], [], ⟨F0, fun _ => none⟩, ⟨q2, (fun n c h => by simp at h), fun n a h => (by cases h), fun n m a h => (by cases h), fun n a h => (by cases h), q3, fun p hp => LamX.TabS.nil (hT p hp)⟩, .cons (.src q1 (Rps.ints ns)) .nil, ?_⟩
  rw [h]
  intro G' H' v _ _ r
  cases r
  rfl
end PV
set_option Elab.async false
set_option linter.all false
set_option maxRecDepth 100000
set_option maxHeartbeats 4000000
namespace ZH
open PySem PySem.W L2
def codeAt (K : Frag) (f : Addr) : Option (Addr × Addr) := match K.lookup f with
  | some ⟨_, _, .func fd, _⟩ => (match fd.code with
    | .ref c => (match K.lookup c with
      | some ⟨_, _, .fields vs, _⟩ => (match (vs[11]? : Option Value) with
        | some (.ref P) => some (c, P)
        | _ => none)
      | _ => none)
    | _ => none)
  | _ => none
def tabA (K : Frag) (lams : List Str) : List Addr := lams.filterMap fun x => (codeAt K (He.ga K x)).map fun p => p.2
def dropT (lams : List Str) (K : Frag) : Frag := K.filter fun p => !((tabA K lams).contains p.1)
abbrev lamQ (x : Str) : Str := x ++ ".<locals>." ++ "<lambda>"
def tab1 (Ka K : Frag) (x : Str) : Bool := match codeAt K (He.ga K x) with
  | some (c, P) => codeHdIn K c P && ((K.lookup P).isNone && ((match Ka.lookup P with
    | some ⟨.none, none, .fields ⟨[]⟩, ⟨[]⟩⟩ => true
    | _ => false) && ((PV.tbs K).any (fun p => decide (p = (P, lamQ x))) && (PV.tbs K).all fun p => !decide (p.1 = P) || decide (p.2 = lamQ x))))
  | none => false
def tabsB (lams : List Str) (Ka K : Frag) : Bool := lams.all (tab1 Ka K) && (PV.tbs K).all fun p => lams.any fun x => decide ((codeAt K (He.ga K x)).map (fun p => p.2) = some p.1)
def obsL (lams : List Str) (chk : Frag → Bool) (fn : List He5.DefA) (Ka : Frag) : He.AlD × Bool := (obsZ chk fn (dropT lams Ka), tabsB lams Ka (dropT lams Ka))
def SaysL (lams : List Str) (chk : Frag → Bool) (fn : List He5.DefA) (Ka : Frag) : Prop := obsL lams chk fn Ka = (He5.valA fn, true)
def obsLG (n : Nat) (lams : List Str) (chk : Frag → Bool) (fn : List He5.DefA) (g : Addr → Option Obj) : He.AlD × Bool := obsL lams chk fn (He.frG g (He5.asA g n))
def hookL (n : Nat) (lams : List Str) (chk : Frag → Bool) (fn : List He5.DefA) : PySem.W.Hook where
  α := He.AlD × Bool
  obs := fun s => obsLG n lams chk fn s.heap.get?
  val := fun _ => ((He5.valA fn, true) : He.AlD × Bool)
  says := fun _ h => ∃ K : Frag, K.In h ∧ SaysL lams chk fn K
  of := fun _ _ e => ⟨_, He.frG_in, e⟩
  keeps := fun _ _ _ z k => z.elim fun K q => ⟨K, Frag.In.keeps q.1 k, q.2⟩
section
variable {lams : List Str} {chk : Frag → Bool} {fn : List He5.DefA} {Ka K : Frag} {h : Heap}
theorem SaysL.z (c : SaysL lams chk fn Ka) : SaysZ chk fn (dropT lams Ka) := congrArg (fun z : He.AlD × Bool => z.1) c
theorem SaysL.t (c : SaysL lams chk fn Ka) : tabsB lams Ka (dropT lams Ka) = true := congrArg (fun z : He.AlD × Bool => z.2) c
theorem lookup_filter {f : Addr → Bool} : ∀ {l : Frag} {a : Addr} {o : Obj}, (l.filter fun p => f p.1).lookup a = some o → l.lookup a = some o
  | [], _, _, e => e
  | (b, u) :: l, a, o, e => by
    by_cases hf : f b = true
    · rw [List.filter_cons_of_pos (by exact hf)] at e
      rw [List.lookup_cons] at e ⊢
      cases q : a == b with
      | true => rw [q] at e; exact e
      | false => rw [q] at e; exact lookup_filter e
    · rw [List.filter_cons_of_neg (by exact hf)] at e
      have r := lookup_filter e
      rw [List.lookup_cons]
      split
      · rename_i q
        have ab : a = b := eq_of_beq q
        exfalso
        have : ∀ {l : Frag} {o : Obj}, (l.filter fun p => f p.1).lookup a = some o → f a = true := by
          intro l
          induction l with
          | nil => intro o e; cases e
          | cons p l ih =>
            intro o e
            by_cases hp : f p.1 = true
            · rw [List.filter_cons_of_pos (by exact hp), List.lookup_cons] at e
              split at e
              · rename_i q2; rw [eq_of_beq q2]; exact hp
              · exact ih e
            · rw [List.filter_cons_of_neg (by exact hp)] at e
              exact ih e
        exact hf (ab ▸ this e)
      · exact r
theorem dropT_in (X : Ka.In h) : (dropT lams Ka).In h := fun a o e => X a o (lookup_filter (f := fun a => !((tabA Ka lams).contains a)) e)
structure LamAt (K : Frag) (h : Heap) (x : Str) (c P : Addr) : Prop where
  code : codeAt K (He.ga K x) = some (c, P)
  hd : CodeHd h c P
  off : K.lookup P = none
  tab : h.get? P = some { cls := .none, data := .fields #[] }
  mem : (P, lamQ x) ∈ PV.tbs K
  one : ∀ p ∈ PV.tbs K, p.1 = P → p.2 = lamQ x
theorem tabs_at (XK : K.In h) (Xa : Ka.In h) (t : tabsB lams Ka K = true) {x : Str} (hx : x ∈ lams) : ∃ c P, LamAt K h x c P := by
  have z := List.all_eq_true.mp (Bool.and_eq_true_iff.mp t).1 x hx
  unfold tab1 at z
  split at z
  · rename_i c P hc
    obtain ⟨z1, z⟩ := Bool.and_eq_true_iff.mp z
    obtain ⟨z2, z⟩ := Bool.and_eq_true_iff.mp z
    obtain ⟨z3, z⟩ := Bool.and_eq_true_iff.mp z
    obtain ⟨z4, z5⟩ := Bool.and_eq_true_iff.mp z
    refine ⟨c, P, hc, codeHd_of_K XK z1, by simpa using z2, ?_, ?_, fun p hp e => ?_⟩
    · split at z3
      · rename_i q
        exact Xa _ _ q
      · cases z3
    · obtain ⟨p, hp, e⟩ := List.any_eq_true.mp z4
      rw [of_decide_eq_true e] at hp
      exact hp
    · have y := List.all_eq_true.mp z5 p hp
      rw [decide_eq_true e] at y
      exact of_decide_eq_true (by simpa using y)
  · cases z
theorem tabs_all (t : tabsB lams Ka K = true) {p : Addr × Str} (hp : p ∈ PV.tbs K) : ∃ x ∈ lams, ∃ c, codeAt K (He.ga K x) = some (c, p.1) := by
  obtain ⟨x, hx, e⟩ := List.any_eq_true.mp (List.all_eq_true.mp (Bool.and_eq_true_iff.mp t).2 p hp)
  obtain ⟨⟨c, P⟩, e1, e2⟩ := Option.map_eq_some_iff.mp (of_decide_eq_true e)
  have e3 : P = p.1 := e2
  subst e3
  exact ⟨x, hx, c, e1⟩
end
end ZH
namespace PV
open PySem PySem.Spec PyProof.Rows L2 ZL
def LamB (K : PySem.W.Frag) (mg : Str → Option Value) (base : Heap) (lams : List Str) : Prop := ∀ x ∈ lams, ∃ c P, ZH.codeAt K (He.ga K x) = some (c, P) ∧ LamX.TabB base mg c P ∧ (P, ZH.lamQ x) ∈ tbs K ∧ ∀ p ∈ tbs K, p.1 = P → p.2 = ZH.lamQ x
abbrev CodeIs (K : PySem.W.Frag) (f : Addr) (cdv : Value) : Prop := ∀ c P, ZH.codeAt K f = some (c, P) → cdv = .ref c
theorem codeIs_of {K : PySem.W.Frag} {f : Addr} {oc : Value} {od : Option Addr} {fd : FuncData} {osl : Array (Option Value)} (lk : K.lookup f = some ⟨oc, od, .func fd, osl⟩) : CodeIs K f fd.code := fun c P e => by
  unfold ZH.codeAt at e
  rw [lk] at e
  simp only at e
  split at e
  · rename_i c' hc
    split at e
    · split at e
      · cases e; exact hc
      · cases e
    · cases e
  · cases e
section
variable {P : Program} {w : World} {K : PySem.W.Frag} {mg : Str → Option Value} {base : Heap} {x qual : Str} {st : Stmt} {kws : List (Str × V)} {f : Addr} {fd : FuncData} {N ps : List Str} {j : Nat} {b : MS}
theorem okFGL {np n : Nat} (F : FunD K x qual (defArgs st) (defBody st) (defScope st) [] kws f fd) (S : FnScope N ps (defScope st)) (hn : ps.length = np) (hN : N.length = n)
    (hb : ∀ (kV doc pm : Value) (an : Option Addr) (cdv ct : Value) (us : List Value), us.length = ps.length → bindArgs (PySem.W.fnOf x qual (defArgs st) (defBody st) (defScope st) .none kV doc pm an cdv ct) ⟨us, []⟩ = pure (ps.zip us))
    (hbody : ∀ (cdv : Value) (A : Around) (outer : List Env) (s : Shared) (H : Hp) (E : XK), CodeIs K f cdv → A.guards = some [] → Room j (A.deeper (envOfC qual (defScope st) s.heap.objs.size f cdv)) →
      QSs (cxOf (L2.CX P w) P w K mg base N qual (defScope st) f cdv A outer s H E) (defBody st) b) : FnFG P w K mg base (j + 1) f (dfn np n b) := by
  obtain ⟨oc, od, dV, kV, doc, pm, an, cdv, ct, osl, e, lk, hcd, -, -⟩ := id F.ex
  have hco : CodeIs K f cdv := by
    have q := codeIs_of lk
    rw [e] at q
    exact q
  have bnd := F.bindsN hb
  subst e
  have len := spF_len (K := K) (b := b) hn (n := n)
  have Fk : FnG P w K mg base (L2.CX P w) (j + 1) f (PySem.W.fnOf x qual (defArgs st) (defBody st) (defScope st) dV kV doc pm an cdv ct) ps (spF K (dfn np n b)) := ⟨len, fun A outer s H args us vs Q E hg hr e0 hb r h => by
    refine StX.run_bnd lk hcd S hr e0 (G := fun xs H2 => xs = vs ∧ H2 = H) (fun A' Ex Q' q => hb _ _ _ _ (q s H vs us e0 Un.refl rfl (fun _ _ z => z) r (len _ _ _ _ h) ⟨rfl, rfl⟩)) fun s2 H2 xs e hr' => ?_
    rw [e.1, e.2]
    exact ⟨_, hbody cdv A outer s2 H E hco hg hr', body_start rfl (takes_of rfl rfl rfl rfl) hn hN h⟩⟩
  intro A outer s H us vs Q E hg hr e0 r h
  have hl : us.length = ps.length := r.length ▸ Fk.len _ _ _ _ h
  have bb := bnd s us (e0.mod.kin.keeps fun b o e => (e0.bs b o e).1) (by simpa using hl)
  exact Fk.run A outer s H ⟨us, []⟩ us vs Q E hg hr e0 (by simpa using bb) r h
end
section
variable {X : Cx} {Ng lams : List Str} {x a y : Str} {st : Stmt} {g fy : Addr} {fd : FuncData} {kws : List (Str × V)} {k : Nat} {params : Arguments} {body : Expr} {scope : Scope} {m : ME} {h : Hrd} {p lpos pos : Pos}
theorem qe_lamA (TB : LamB X.K X.mg X.base lams) (hy : y ∈ lams) (hco : CodeIs X.K (He.ga X.K y) X.env.code) (hq : X.env.qual = y ++ ".<locals>.") (hr : Room (k + 2) X.A) (hm : X.mg x = some (.ref g)) (hk : PySem.W.keepIn X.K (.ref g) = true) (F : FunD X.K x x (defArgs st) (defBody st) (defScope st) [] kws g fd) (Sg : FnScope Ng [a] (defScope st))
    (hb : ∀ (kV doc pm : Value) (an : Option Addr) (cdv ct : Value) (us : List Value), us.length = 1 → bindArgs (PySem.W.fnOf x x (defArgs st) (defBody st) (defScope st) .none kV doc pm an cdv ct) ⟨us, []⟩ = pure (([a] : List Str).zip us))
    (hG : ∀ cdv q, LamX.GivesTo X Ng x (defScope st) g cdv (defBody st) a q (TTh X.K h)) (L : LamX.lamSB X.env.scope scope = true)
    (hbody : ∀ (A : Around) (outer : List Env) (s : Shared) (H : Hp) (E : XK) (f c' : Addr), Room k (A.deeper (LamX.lamEnv X scope s.heap.objs.size f c')) → QE (LamX.lamCx X A outer s H E scope f c') body m)
    (hg : Gl X x := by rfl) (hNg : Ng[0]? = some a := by rfl) (hva : Vis (defScope st) a := by first | exact .inl rfl | exact .inr (.inl rfl)) (hdef : defaultsOf params X.env = ([], []) := by rfl)
    (hbind : ∀ (q : Str) (cl : List (Str × Addr)) (pm cv ctv : Value), bindArgs (PySem.W.kla_fn "<lambda>" q params body scope cl pm cv ctv) ⟨[], []⟩ = pure [] := by intro _ _ _ _ _; rfl)
    (hdb : (x == ("__debug__" : Str)) = false := by decide) (hd : (a == ("__debug__" : Str)) = false := by decide) (hcd : (a == ("__classdict__" : Str)) = false := by decide) :
    QE X (.Call (.Name x p) [.Lambda params body scope lpos] [] pos) (lamc h m) := by
  obtain ⟨c, P, e1, e2, e3, e4⟩ := TB y hy
  have eq : X.env.qual ++ "<lambda>" = ZH.lamQ y := by rw [hq]
  exact qe_lam hg hm hk F Sg hb hNg hva (fun cdv => hG cdv _) e2 (hco c P e1) (by rw [eq]; exact e3) (by rw [eq]; exact e4) hr (LamX.lamS_by L) hdef hbind hbody hdb hd hcd
end
end PV
set_option Elab.async false
set_option linter.all false
set_option maxRecDepth 100000
set_option maxHeartbeats 4000000
namespace ZH
open PySem PySem.W L2
def hookF (as : List Addr) (K : Params → Frag) (ea : ∀ P, as = (K P).map (·.1)) (Says : World → Frag → Prop) (hs : ∀ w : World, Says w (K w.params)) : PySem.W.Hook where
  α := List (Option Obj)
  obs := fun s => as.map s.heap.get?
  val := fun w => (K w.params).map fun p => some p.2
  says := fun w h => ∃ K : Frag, K.In h ∧ Says w K
  of := fun w s e => ⟨K w.params, Frag.in_of (ea _) e, hs w⟩
  keeps := fun _ _ _ z k => z.elim fun K q => ⟨K, Frag.In.keeps q.1 k, q.2⟩
def obF (as : List Addr) (s : PySem.W.SharedT) : List (Option Obj) := as.map (HandSHeadRun.getT s)
theorem obF_eq {as : List Addr} {K : Params → Frag} {ea : ∀ P, as = (K P).map (·.1)} {Says : World → Frag → Prop} {hs : ∀ w : World, Says w (K w.params)} (s : PySem.W.SharedT) : obF as s = (hookF as K ea Says hs).obs s.abs := by
  unfold obF
  rw [show HandSHeadRun.getT s = s.abs.heap.get? from funext (HandSHeadRun.getT_eq s)]
  rfl
end ZH
set_option Elab.async false
set_option linter.all false
set_option maxRecDepth 100000
set_option maxHeartbeats 4000000
namespace ZL
open PySem PySem.Spec PyProof.Rows L2
section
open PySem.W
variable {prog : Program} {w : World} {A : Around} {E : Value → Shared → Prop} {s : Shared} {K : Frag} {x C f dx : Addr} {od : Option Obj} {id : String} {B : Builtin} {i : Int} {t : Tok} {Q : Value → Shared → Prop} {op : CmpOp}
end
end ZL
namespace PV
open PySem PySem.Spec PyProof.Rows L2 ZL
section
variable {X : Cx} {j : Nat} {c : String} {F : Fn} {g : G2} {f : Addr}
end
theorem isFn_ty {K : PySem.W.Frag} {v : Value} (h : PySem.W.isFn K v = true) : PySem.W.typeIn K v = some (.type "function") := by
  unfold PySem.W.isFn at h
  simpa using h
def sPar3 (i j l : Nat) (ms : MA) : MS := fun ρ S => (ms ρ S).bind fun ds S1 => match ds with
  | [a, b, c] => .ok (.nx (((ρ.set i (some a)).set j (some b)).set l (some c))) S1
  | _ => .no
end PV
set_option Elab.async false
set_option linter.all false
set_option maxRecDepth 100000
set_option maxHeartbeats 4000000
namespace PV
open PySem PySem.Spec PyProof.Rows L2 ZL RZ
end PV
set_option Elab.async false
set_option linter.all false
set_option maxRecDepth 100000
set_option maxHeartbeats 4000000
namespace PV
open PySem PySem.Spec PyProof.Rows L2 ZL
def csOf (K : PySem.W.Frag) (lams : List Str) : List (Addr × Addr) := lams.filterMap fun x => ZH.codeAt K (He.ga K x)
section
variable {Ka K : PySem.W.Frag} {lams : List Str} {h : Heap}
theorem csOf_mem {p : Addr × Addr} (hp : p ∈ csOf K lams) : ∃ x ∈ lams, ZH.codeAt K (He.ga K x) = some p := List.mem_filterMap.mp hp
theorem csOf_all (X : K.In h) (Xa : Ka.In h) (t : ZH.tabsB lams Ka K = true) : ∀ p ∈ csOf K lams, PySem.W.CodeHd h p.1 p.2 ∧ h.get? p.2 = some { cls := .none, data := .fields #[] } ∧ K.lookup p.2 = none := fun p hp => by
  obtain ⟨x, hx, e⟩ := csOf_mem hp
  obtain ⟨c, q, L⟩ := ZH.tabs_at X Xa t hx
  have ep : p = (c, q) := Option.some.inj (e.symm.trans L.code)
  subst ep
  exact ⟨L.hd, L.tab, L.off⟩
theorem csOf_told (t : ZH.tabsB lams Ka K = true) {H : Hp} (hH : ∀ p ∈ csOf K lams, H p.2 = some (.tbl #[])) : ∀ p ∈ tbs K, H p.1 = some (.tbl #[]) := fun p hp => by
  obtain ⟨x, hx, c, e⟩ := ZH.tabs_all t hp
  exact hH (c, p.1) (List.mem_filterMap.mpr ⟨x, hx, e⟩)
theorem csOf_lam (X : K.In h) (Xa : Ka.In h) (t : ZH.tabsB lams Ka K = true) {mg : Str → Option Value} {base : Heap} (hB : ∀ p ∈ csOf K lams, LamX.TabB base mg p.1 p.2) : LamB K mg base lams := fun x hx => by
  obtain ⟨c, q, L⟩ := ZH.tabs_at X Xa t hx
  exact ⟨c, q, L.code, hB (c, q) (List.mem_filterMap.mpr ⟨x, hx, L.code⟩), L.mem, L.one⟩
end
end PV
set_option Elab.async false
set_option linter.all false
set_option maxRecDepth 100000
set_option maxHeartbeats 4000000
namespace PV
open PySem PySem.Spec PyProof.Rows L2 ZL RZ
def esG (es : List (Str × D)) (z : Str) : Option D := (es.find? fun p => decide (p.1 = z)).map (·.2)
def esP (es : List (Str × D)) (z : Str) (d : D) : List (Str × D) := if (es.any fun p => decide (p.1 = z)) = true then es.map (fun p => if p.1 = z then (p.1, d) else p) else es ++ [(z, d)]
section
variable {K : PySem.W.Frag} {G : Gh} {es : List (Str × D)} {kvs : List (Key × V)}
theorem Rpk.get (r : Rpk K G es kvs) {z : Str} {d : D} (h : esG es z = some d) : ∃ v, valV kvs (.inr z) = some v ∧ Rp K G d v := by
  induction r with
  | nil => cases h
  | @cons x d' v es kvs hv t ih =>
    unfold esG at h
    rw [List.find?_cons] at h
    by_cases q : x = z
    · rw [decide_eq_true q] at h
      cases h
      exact ⟨v, valV_pos (by rw [q]), hv⟩
    · rw [decide_eq_false q] at h
      obtain ⟨v', h1, h2⟩ := ih h
      refine ⟨v', ?_, h2⟩
      have ne : ¬ ((Sum.inr x : Key) = .inr z) := fun e => q (Sum.inr.inj e)
      unfold valV at h1 ⊢
      rw [List.find?_cons, decide_eq_false ne]
      exact h1
theorem Rpk.any (r : Rpk K G es kvs) (z : Str) : (kvs.any fun kv => decide (kv.1 = (.inr z : Key))) = es.any fun p => decide (p.1 = z) := by
  induction r with
  | nil => rfl
  | @cons x d v es kvs hv t ih =>
    rw [List.any_cons, List.any_cons, ih]
    congr 1
    have : ((Sum.inr x : Key) = .inr z) ↔ x = z := ⟨fun e => Sum.inr.inj e, fun e => by rw [e]⟩
    exact decide_eq_decide.mpr this
theorem Rpk.app (r : Rpk K G es kvs) {z : Str} {d : D} {v : V} (h : Rp K G d v) : Rpk K G (es ++ [(z, d)]) (kvs ++ [(.inr z, v)]) := by
  induction r with
  | nil => exact .cons h .nil
  | cons hv t ih => exact .cons hv ih
theorem Rpk.over (r : Rpk K G es kvs) {z : Str} {d : D} {v : V} (h : Rp K G d v) : Rpk K G (es.map fun p => if p.1 = z then (p.1, d) else p) (kvs.map fun kv => if kv.1 = (.inr z : Key) then (kv.1, v) else kv) := by
  induction r with
  | nil => exact .nil
  | @cons x d' v' es kvs hv t ih =>
    rw [List.map_cons, List.map_cons]
    by_cases q : x = z
    · subst q
      rw [if_pos rfl, if_pos rfl]
      exact .cons h ih
    · rw [if_neg q, if_neg fun e => q (Sum.inr.inj e)]
      exact .cons hv ih
theorem Rpk.put (r : Rpk K G es kvs) {z : Str} {d : D} {v : V} (h : Rp K G d v) : Rpk K G (esP es z d) (putK kvs (.inr z) v) := by
  unfold esP putK
  rw [r.any]
  split
  · exact r.over h
  · exact r.app h
theorem Rpk.keys (r : Rpk K G es kvs) : kvs.map (·.1) = es.map fun p => (.inr p.1 : Key) := by
  induction r with
  | nil => rfl
  | cons hv t ih => rw [List.map_cons, List.map_cons, ih]
theorem Rpk.len (r : Rpk K G es kvs) : kvs.length = es.length := by
  induction r with
  | nil => rfl
  | cons hv t ih => rw [List.length_cons, List.length_cons, ih]
theorem merge_nodup : ∀ (more acc : List (Key × V)), (acc.map (·.1) ++ more.map (·.1)).Nodup → mergeK acc more = acc ++ more
  | [], acc, _ => by simp [mergeK]
  | (k, v) :: more, acc, h => by
    have e : putK acc k v = acc ++ [(k, v)] := by
      unfold putK
      rw [if_neg]
      intro z
      obtain ⟨p, hp, e⟩ := List.any_eq_true.mp z
      rw [List.map_cons, List.nodup_append] at h
      exact h.2.2 p.1 (List.mem_map_of_mem hp) k List.mem_cons_self (of_decide_eq_true e)
    show mergeK (putK acc k v) more = _
    rw [e, merge_nodup more (acc ++ [(k, v)]) (by simpa using h)]
    simp
end
def dicL : List (Str × ME) → Ev → Sto → Out (List (Str × D))
  | [], _, S => .ok [] S
  | (z, m) :: r, ρ, S => (m ρ S).bind fun d S1 => (dicL r ρ S1).bind fun es S2 => .ok ((z, d) :: es) S2
def dicQ (n : Nat) (es : List (Str × D)) (S2 : Sto) : Out D := match S2[n]? with
  | some (.dic []) => if es.length ≤ 15 ∧ (es.map (·.1)).Nodup then .ok (.loc n) (S2.set n (.dic es)) else .no
  | _ => .no
def dicM (kms : List (Str × ME)) : ME := fun ρ S => (dicL kms ρ (S ++ [.dic []])).bind (dicQ S.length)
structure QPM (X : Cx) (pos : Pos) (keys : List (Option Expr)) (values : List Expr) (kms : List (Str × ME)) : Prop where
  run : ∃ trs, PPs X pos keys values trs ∧ ∀ ρ S G σ H (Q : List (V × V) → Hp → Prop), Sm X.K G S H → Re X.K G ρ σ → sat X (Rpk X.K) G H (dicL kms ρ S) (fun kvs H' => Q (kvs.map fun kv => (kV kv.1, kv.2)) H') → tPairs trs σ H Q
section
variable {X : Cx}
theorem qpm_nil {pos : Pos} : QPM X pos [] [] [] := ⟨[], pps_nil, fun ρ S G σ H Q sm re h => h G H [] .refl sm .nil⟩
theorem qpm_cons {pos kp : Pos} {z : Str} {j : Nat} {e : Expr} {m : ME} {ks : List (Option Expr)} {vs : List Expr} {kms : List (Str × ME)} (h : QE X e m) (r : QPM X pos ks vs kms) : QPM X pos (some (.Constant (.str z) j kp) :: ks) (e :: vs) ((z, m) :: kms) := by
  obtain ⟨trs, h1, h2⟩ := r
  refine ⟨_, pps_cons pe_str h h1, fun ρ S G σ H Q sm re q => ?_⟩
  refine ⟨ρ, S, G, sm, re, (sat.bind q).imp fun v H1 w => ?_⟩
  obtain ⟨d, S1, G1, le1, sm1, r1, q1⟩ := w
  refine h2 ρ S1 G1 σ H1 _ sm1 (re.mono le1.le) ((sat.bind q1).imp fun kvs H2 w => ?_)
  obtain ⟨es, S2, G2, le2, sm2, r2, q2⟩ := w
  exact q2 G2 H2 ((.inr z, v) :: kvs) .refl sm2 (.cons (r1.mono le2.le) r2)
theorem qe_dicM {pos : Pos} {keys : List (Option Expr)} {values : List Expr} {kms : List (Str × ME)} (h : QPM X pos keys values kms) (hall : keys.all (·.isSome) = true := by rfl) (hl : keys.length = values.length := by rfl) (h0 : keys ≠ [] := by simp) (h15 : keys.length ≤ 15 := by decide) :
    QE X (.Dict keys values pos) (dicM kms) := by
  obtain ⟨trs, h1, h2⟩ := h
  refine qe_of (pe_disp h1 hall hl h0 h15) fun ρ S G σ H Q sm re z p hp => ?_
  have sm1 : Sm X.K (G.new S.length p) (S ++ [.dic []]) (upd H p (.dK [])) := sm.new hp ⟨[], upd_same, .nil⟩
  have st1 : Stp G H (G.new S.length p) (upd H p (.dK [])) := Stp.cell sm hp
  refine h2 ρ _ _ σ _ _ sm1 (re.mono st1.le) ((sat.bind (z.mono st1)).imp fun kvs H2 w => ?_)
  obtain ⟨es, S2, G2, le2, sm2, r2, q2⟩ := w
  unfold dicQ at q2
  split at q2
  · rename_i hn
    split at q2
    · rename_i nd
      have hf : G2.f S.length = some p := le2.le.2 _ _ Gh.new_at
      obtain ⟨_, kv0, h3, h4⟩ := sm2.addr hn (by simp) hf
      cases h4
      refine ⟨h3, kvs, rfl, ?_, ?_⟩
      · rw [r2.len]
        exact nd.1
      · have em : mergeK [] kvs = kvs := merge_nodup kvs [] (by
          rw [List.map_nil, List.nil_append, r2.keys]
          have := nd.2
          rw [show (es.map fun p => (Sum.inr p.1 : Key)) = (es.map (·.1)).map Sum.inr by simp]
          exact List.Pairwise.map _ (fun a b ne e => ne (Sum.inr.inj e)) this)
        rw [em]
        exact q2 G2 _ _ (Stp.write hf) (sm2.write hn (by simp) hf ⟨kvs, upd_same, r2⟩) (.loc hf)
    · exact q2.elim
  · exact q2.elim
def ddG : G2 := fun x y S => match x with
  | .loc n => match y with
    | .str z => match S[n]? with
      | some (.dic es) => match esG es z with
        | some d => .ok d S
        | none => .no
      | _ => .no
    | _ => .no
  | _ => .no
theorem Sm.dic {K : PySem.W.Frag} {G : Gh} {S : Sto} {H : Hp} (sm : Sm K G S H) {n : Nat} {es : List (Str × D)} (h : S[n]? = some (.dic es)) {v : V} (r : Rp K G (.loc n) v) : ∃ a kvs, v = .ref a ∧ G.f n = some a ∧ H a = some (.dK kvs) ∧ Rpk K G es kvs := by
  cases r with
  | @loc n a hf =>
    obtain ⟨_, kvs, h1, h2⟩ := sm.addr h (by simp) hf
    exact ⟨a, kvs, rfl, hf, h1, h2⟩
theorem qe_dd {o i : Expr} {mo mi : ME} {pos : Pos} (hu : X.A.units + 1 < cLine) (ho : QE X o mo) (hi : QE X i mi) (hs : NoSl i := by exact fun _ _ => rfl) : QE X (.Subscript o i pos) (bin ddG mo mi) :=
  qe_of (pe_dget hu ho hi hs) fun ρ S G σ H Q sm re h => by
    refine ⟨ρ, S, G, sm, re, (sat.bind h).imp fun v H1 w => ?_⟩
    obtain ⟨x, S1, G1, le1, sm1, r1, q1⟩ := w
    refine ⟨ρ, S1, G1, sm1, re.mono le1.le, (sat.bind q1).imp fun v' H2 w => ?_⟩
    obtain ⟨y, S2, G2, le2, sm2, r2, q2⟩ := w
    unfold ddG at q2
    split at q2
    · split at q2
      · split at q2
        · rename_i hn
          split at q2
          · rename_i d hd
            obtain ⟨a, kvs, rfl, hf, ha, rk⟩ := sm2.dic hn (r1.mono le2.le)
            obtain ⟨v2, hv, r3⟩ := rk.get hd
            cases r2
            exact ⟨a, v2, rfl, by rw [← hv]; exact DGet.k (k := .inr _) ha, q2 G2 H2 v2 .refl sm2 r3⟩
          · exact q2.elim
        · exact q2.elim
      · exact q2.elim
    · exact q2.elim
def sDk (o i m : ME) : MS := fun ρ S => (m ρ S).bind fun y S1 => (o ρ S1).bind fun x S2 => (i ρ S2).bind fun k S3 => match x with
  | .loc n => match k with
    | .str z => match S3[n]? with
      | some (.dic es) => if es.length < 1000 then .ok (.nx ρ) (S3.set n (.dic (esP es z y))) else .no
      | _ => .no
    | _ => .no
  | _ => .no
theorem qs_dk {o i e : Expr} {mo mi m : ME} {p pos : Pos} (hu : X.A.units + 1 < cLine) (ho : QE X o mo) (hi : QE X i mi) (h : QE X e m) (hs : swapsWith e (some (.Subscript o i p)) pos.line X.env = pure false := by rfl) :
    QS X (.Assign [.Subscript o i p] e pos) (sDk mo mi m) := qs_of (ps_dput hu ho hi h hs) fun ρ S G σ H D sm re z => by
  refine ⟨ρ, S, G, sm, re, (satS.bind z).imp fun v H1 w => ?_⟩
  obtain ⟨y, S1, G1, le1, sm1, r1, q1⟩ := w
  refine ⟨ρ, S1, G1, sm1, re.mono le1.le, (satS.bind q1).imp fun v2 H2 w => ?_⟩
  obtain ⟨x, S2, G2, le2, sm2, r2, q2⟩ := w
  refine ⟨ρ, S2, G2, sm2, (re.mono le1.le).mono le2.le, (satS.bind q2).imp fun v3 H3 w => ?_⟩
  obtain ⟨k, S3, G3, le3, sm3, r3, q3⟩ := w
  split at q3
  · split at q3
    · split at q3
      · rename_i hn
        split at q3
        · rename_i hl
          obtain ⟨a, kvs, rfl, hf, ha, rk⟩ := sm3.dic hn (r2.mono le3.le)
          cases r3
          exact ⟨a, _, rfl, DPut.k (k := (.inr _ : Key)) ha (by rw [rk.len]; exact Nat.lt_of_lt_of_le hl (by decide)), q3 G3 _ σ (Stp.write hf) (sm3.write hn (by simp) hf ⟨_, upd_same, rk.put ((r1.mono le2.le).mono le3.le)⟩) (((re.mono le1.le).mono le2.le).mono le3.le)⟩
        · exact q3.elim
      · exact q3.elim
    · exact q3.elim
  · exact q3.elim
end
end PV
set_option Elab.async false
set_option linter.all false
set_option maxRecDepth 100000
set_option maxHeartbeats 4000000
namespace ZL
open PySem PySem.Spec PyProof.Rows L2
section
open PySem.W
variable {prog : Program} {w : World} {A : Around} {E : Value → Shared → Prop} {s : Shared} {K : Frag} {x C f : Addr} {od : Option Obj} {ox : Obj} {nm : String} {Q : Value → Shared → Prop} {u : Value} {T : String} {fo ro : Option Value}
def numS (T nm : String) : Option Bool := match fastLookup T (PySem.dunder nm), fastLookup T (dunderR nm) with
  | some fo, some ro => some ((fo.isSome && !isSeqSlot fo) || (ro.isSome && !isSeqSlot ro))
  | _, _ => none
theorem numS_of {b : Bool} (h : numS T nm = some b) : ∃ fo ro, findIn K (.type T) (PySem.dunder nm) = some fo ∧ findIn K (.type T) (dunderR nm) = some ro ∧ ((fo.isSome && !isSeqSlot fo) || (ro.isSome && !isSeqSlot ro)) = b := by
  unfold numS at h
  split at h
  · rename_i fo ro h1 h2
    exact ⟨fo, ro, h1, h2, Option.some.inj h⟩
  · cases h
theorem rbinL (X : K.In s.heap) (J : InstAt s.heap x ox C od) (hu : Looks (model prog w) s.heap (typeOf u) (.type T)) (hn : numS T nm = some false) (hC : Looks (model prog w) s.heap (fillsNumberSlot (.ref C) nm) true)
    (hs : findIn K (.ref C) (dunderR nm) = some (some (.ref f))) (hf : isFn K (.ref f) = true) (h : wpAny (model prog w) A (call (.ref f) [.ref x, u]) (PySem.W.CmpBack Q) E s) :
    wpAny (model prog w) A (binaryOp1 nm u (.ref x)) (fun r s' => ∃ v, r = some v ∧ Q v s') E s := by
  have one := ksp_try X J hs hf h
  obtain ⟨fo, ro, h1, h2, h3⟩ := numS_of (K := K) hn
  have M2 : Looks (model prog w) s.heap (typeOf (.ref x)) (.ref C) := J.type
  have M3 : Looks (model prog w) s.heap (fillsNumberSlot (.type T) nm) false := by
    have := ksp_fillsT (M := model prog w) X h1 h2
    rw [h3] at this
    exact this
  have hne : (Value.type T == Value.ref C) = false := Bool.eq_false_iff.mpr fun q => by cases beq_iff_eq.mp q
  obtain ⟨g0, g, d, tt, os⟩ := s
  unfold binaryOp1
  refine wpAny_bind (hu.at (wpAny_bind (M2.at (wpAny_bind (M3.at ?_)))))
  simp only [hne, Bool.false_eq_true, if_false]
  ksp_lk
  refine wpAny_mono one (fun r s' z => ?_) fun _ _ e => e
  obtain ⟨v, rfl, hq⟩ := z
  ksp_lk
  exact ⟨v, rfl, hq⟩
end
end ZL
namespace PV
open PySem PySem.Spec PyProof.Rows L2 ZL
end PV
set_option Elab.async false
set_option linter.all false
set_option maxRecDepth 100000
set_option maxHeartbeats 4000000
namespace ZL
open PySem PySem.Spec PyProof.Rows L2
section
open PySem.W
variable {prog : Program} {w : World} {A : Around} {E : Value → Shared → Prop} {s : Shared} {K : Frag} {x C f dx : Addr} {od : Option Obj} {nm id : String} {B : Builtin} {y : Bool} {Q : Value → Shared → Prop}
theorem rbinT (slot : Slot "bool" (PySem.dunder nm) id) (entry : entryFor table id = some B) (args : argsOk id ⟨[.bool y, .ref x], []⟩) (ni : Meets (B ⟨[.bool y, .ref x], []⟩) (fun _ R s => s.heap.get? x = some (instObj C dx) ∧ R (.ok (.ret .notImplemented)) s))
    (fills : fillsNumberSlot (.type "bool") nm = pure true) (X : K.In s.heap) (J : InstAt s.heap x (instObj C dx) C od) (hx : s.heap.get? x = some (instObj C dx)) (hC : Looks (model prog w) s.heap (fillsNumberSlot (.ref C) nm) true)
    (hs : findIn K (.ref C) (dunderR nm) = some (some (.ref f))) (hf : isFn K (.ref f) = true) (hsub : subIn K (.ref C) (.type "bool") = some false)
    (h : wpAny (model prog w) A (call (.ref f) [.ref x, .bool y]) (PySem.W.CmpBack Q) E s) : wpAny (model prog w) A (binaryOp1 nm (.bool y) (.ref x)) (fun r s' => ∃ v, r = some v ∧ Q v s') E s := by
  have one := ksp_try X J hs hf h
  have B1 : Looks (model prog w) s.heap (typeOf (.bool y)) (.type "bool") := Looks.of_pure rfl
  have B2 : Looks (model prog w) s.heap (typeOf (.ref x)) (.ref C) := J.type
  have B3 : Looks (model prog w) s.heap (fillsNumberSlot (.type "bool") nm) true := Looks.of_pure fills
  have B5 : Looks (model prog w) s.heap (isSubtype (.ref C) (.type "bool")) false := looks_subIn X hsub
  have B6 : Looks (model prog w) s.heap (numberSlotInPython (.type "bool") nm) false := Looks.of_pure rfl
  have hne : (Value.type "bool" == Value.ref C) = false := Bool.eq_false_iff.mpr fun q => by cases beq_iff_eq.mp q
  have none_ : ∀ {Q : Option Value → Shared → Prop}, Q none s → wpAny (model prog w) A (tryMethod (.bool y) (PySem.dunder nm) (.ref x)) Q E s := fun hq => by
    have ty : s.TypeIs (.bool y) "bool" := rfl
    unfold tryMethod
    exact wpAny_bind (wpAny_callSpecial?_slot ty slot (call_meets slot ty entry args ni ⟨hx, wpAny_pure hq⟩))
  obtain ⟨g0, g, d, tt, os⟩ := s
  unfold binaryOp1
  refine wpAny_bind (B1.at (wpAny_bind (B2.at (wpAny_bind (B3.at ?_)))))
  simp only [hne, Bool.false_eq_true, if_false]
  ksp_lk
  refine none_ ?_
  ksp_lk
  refine wpAny_mono one (fun r s' z => ?_) fun _ _ e => e
  obtain ⟨v, rfl, hq⟩ := z
  ksp_lk
  exact ⟨v, rfl, hq⟩
end
end ZL
namespace PV
open PySem PySem.Spec PyProof.Rows L2 ZL
section
variable {X : Cx} {j : Nat} {c : String} {f f' : Addr} {F : Fn} {g : G2}
end
end PV
set_option Elab.async false
set_option linter.all false
set_option maxRecDepth 100000
set_option maxHeartbeats 4000000
namespace PV
open PySem PySem.Spec PyProof.Rows L2 ZL
mutual
def toQ : D → Option PyData
  | .non => some .none
  | .bl b => some (.bool b)
  | .int i => some (.int i)
  | .str x => some (.str x)
  | .tup xs => (toQs xs).map .tuple
  | .dic0 => some (.dict [])
  | .lst _ => none
  | .src _ => none
  | .hob _ => none
  | .exc _ _ => none
  | .ntp _ => none
  | .obj _ _ => none
  | .loc _ => none
  | .cls _ => none
  | .fnc _ => none
  | .ty _ => none
def toQs : List D → Option (List PyData)
  | [] => some []
  | x :: xs => match toQ x with
    | some p => (toQs xs).map (p :: ·)
    | none => none
end
section
variable {X : Cx} {pins : List (Addr × Obj)} {σ : L2.St} {H : Hp} {s : Shared} {G : Gh}
mutual
theorem reads_q (I : Inv X pins σ H s) (fr : ∀ a o, G.F a = some o → H a = some o) : ∀ (d : D) (v : V) (u : Value) (p : PyData), Rp X.K G d v → RelV v u → toQ d = some p → ∃ as, Reads s.heap u p as ∧ sysModules ∉ as
  | .non, _, _, _, r0, r, h => by
    cases r0
    cases h
    cases r
    exact ⟨[], .none, by simp⟩
  | .bl b, _, _, _, r0, r, h => by
    cases r0
    cases h
    cases r
    exact ⟨[], .bool b, by simp⟩
  | .int i, _, _, _, r0, r, h => by
    cases r0
    cases h
    obtain ⟨t, rfl⟩ := r
    exact ⟨[], .int i t, by simp⟩
  | .str x, _, _, _, r0, r, h => by
    cases r0
    cases h
    obtain ⟨t, rfl⟩ := r
    exact ⟨[], .str x t, by simp⟩
  | .tup xs, _, _, _, r0, r, h => by
    cases r0 with
    | tup hq ha =>
      rw [toQ] at h
      obtain ⟨ps, hp, rfl⟩ := Option.map_eq_some_iff.mp h
      cases r
      obtain ⟨its, rv, ⟨o, ho, hc, n, hd⟩, _⟩ := I.tuple (SqT.mono hq fr)
      obtain ⟨as, q1, q2⟩ := reads_qs I fr xs _ its ps ha rv hp
      exact ⟨as, .tuple ho hc hd q1, q2⟩
  | .dic0, _, _, _, r0, r, h => by
    cases r0 with
    | dic0 hq =>
      cases h
      cases r
      obtain ⟨_, ns, vs, rel, o, es, ep, h1, h2, h3, h4, h5, h6⟩ := dk_of I.hok (fr _ _ hq)
      cases rel
      have e0 : es.toList = [] := by
        cases hl : es.toList with
        | nil => rfl
        | cons a b => rw [hl] at h5; cases h5
      refine ⟨_, .dict h1 h2.1 h3 (by rw [e0]; exact .nil) (by rw [e0]; exact .nil), ?_⟩
      simpa using fun e => (beq_eq_false_iff_ne.mp ns) e.symm
  | .lst _, _, _, _, _, _, h => by cases h
  | .src _, _, _, _, _, _, h => by cases h
  | .hob _, _, _, _, _, _, h => by cases h
  | .exc _ _, _, _, _, _, _, h => by cases h
  | .ntp _, _, _, _, _, _, h => by cases h
  | .obj _ _, _, _, _, _, _, h => by cases h
  | .loc _, _, _, _, _, _, h => by cases h
  | .cls _, _, _, _, _, _, h => by cases h
  | .fnc _, _, _, _, _, _, h => by cases h
  | .ty _, _, _, _, _, _, h => by cases h
theorem reads_qs (I : Inv X pins σ H s) (fr : ∀ a o, G.F a = some o → H a = some o) : ∀ (ds : List D) (vs : List V) (us : List Value) (ps : List PyData), Rps X.K G ds vs → Vals vs us → toQs ds = some ps → ∃ as, ReadsAll s.heap us ps as ∧ sysModules ∉ as
  | [], _, _, _, r0, r, h => by
    cases r0
    cases h
    cases r
    exact ⟨[], .nil, by simp⟩
  | d :: ds, _, _, _, r0, r, h => by
    cases r0 with
    | cons h1 h2 =>
      rw [toQs] at h
      split at h
      · rename_i p hp
        obtain ⟨ps, hps, rfl⟩ := Option.map_eq_some_iff.mp h
        cases r with
        | cons r1 r2 =>
          obtain ⟨as, q1, n1⟩ := reads_q I fr d _ _ p h1 r1 hp
          obtain ⟨bs, q2, n2⟩ := reads_qs I fr ds _ _ ps h2 r2 hps
          exact ⟨as ++ bs, .cons q1 q2, by simp [n1, n2]⟩
      · cases h
end
end
def reprT (p : PyData) : Bool := p.showable && decide (p.depth ≤ 60) && decide (p.shown.length ≤ sizeLine)
def reprQ (g : Fn) : Fn := fun ds S => match ds with
  | [.tup xs] => match toQs xs with
    | some ps => if reprT (.tuple ps) = true then .ok (.str (PyData.tuple ps).shown) S else .no
    | none => g [.tup xs] S
  | [.lst (x :: xs)] => match toQs (x :: xs) with
    | some ps => if reprT (.list ps) = true then .ok (.str (PyData.list ps).shown) S else .no
    | none => g [.lst (x :: xs)] S
  | ds => g ds S
theorem cf_reprQ {X : Cx} {g : Fn} (hg : X.A.guards = some []) (hu : X.A.units + 64 < cLine) (hgg : CallF X (.builtin "repr") g) : CallF X (.builtin "repr") (reprQ g) := fun pins s σ H vs us Q I rv ⟨ds, S, G, sm, r, h⟩ => by
  unfold reprQ at h
  split at h
  · split at h
    · rename_i ps hp
      split at h
      · rename_i c
        simp only [reprT, Bool.and_eq_true, decide_eq_true_eq] at c
        obtain ⟨v, rfl, q⟩ := vals1 r
        cases q with
        | tup hq ha =>
          obtain ⟨u, rfl, e⟩ := L2.vals1 rv
          cases e
          obtain ⟨its, rw', ⟨o, ho, hc, n, hd⟩, _⟩ := I.tuple (SqT.mono hq sm.fr)
          obtain ⟨as, q1, q2⟩ := reads_qs I sm.fr _ _ its ps ha rw' hp
          exact repr_of_reads' (Reads.tuple ho hc hd q1) c.1.1 (fun _ => q2) hg (by omega) (fun _ _ z => z) (fun h' u tk hk => ⟨.str _, H, I.kept hk, ⟨u, rfl⟩, h G H _ .refl sm (.str _)⟩) c.2
      · exact h.elim
    · exact hgg pins s σ H vs us Q I rv ⟨_, S, G, sm, r, h⟩
  · split at h
    · rename_i x xs ps hp
      split at h
      · rename_i c
        simp only [reprT, Bool.and_eq_true, decide_eq_true_eq] at c
        obtain ⟨v, rfl, q⟩ := vals1 r
        cases q with
        | lst hq ha =>
          obtain ⟨u, rfl, e⟩ := L2.vals1 rv
          cases e
          obtain ⟨its, rw', ⟨o, n, ho, hc, _, hd⟩, _⟩ := I.list (SqL.of (sm.fr _ _ hq))
          obtain ⟨as, q1, q2⟩ := reads_qs I sm.fr _ _ its ps ha rw' hp
          obtain ⟨⟨cs, hz⟩, hdp⟩ := c
          have hz2 : (listText (PyData.shownAll ps)).length ≤ sizeLine := by simpa only [PyData.shown] using hdp
          have rl := Reads.list ho hc hd q1
          obtain ⟨bs, hb, hk⟩ := ReprAllK.of_readsAll (prog := X.prog) (w := X.w) q1 (by simpa [PyData.showable] using cs) (fun _ => q2) (fun t ht => Nat.le_trans (listText_mem_le ht) hz2)
          have hna := not_mem_of_deeper rl (by simp only [PyData.depth]; omega) hb
          simp only [PyData.depth] at hz
          cases its with
          | nil =>
            exfalso
            cases ha
            cases rw'
          | cons y ys =>
            have hh := hk.length_eq
            refine call_repr_slot (by omega) ⟨o, ho, hc⟩ PySem.F.slot_list_repr.toG ?_
            exact call_list_reprK ho hc (by rw [hd]) hna (by simpa using hh) (fun i y e => hk.item i y (by simpa using e)) hg (fun b _ => Clear.nil b) (by show X.A.units + 1 + _ < cLine; omega) (fun _ _ z => z) (fun h' u tk hk => ⟨_, _, rfl, ⟨.str _, H, I.kept hk, ⟨u, rfl⟩, h G H _ .refl sm (.str _)⟩⟩) hz2
      · exact h.elim
    · exact hgg pins s σ H vs us Q I rv ⟨_, S, G, sm, r, h⟩
  · exact hgg pins s σ H vs us Q I rv ⟨_, S, G, sm, r, h⟩
end PV
set_option Elab.async false
set_option linter.all false
set_option maxRecDepth 100000
set_option maxHeartbeats 4000000
namespace PV
open PySem PySem.Spec PyProof.Rows L2 ZL
section
variable {X : Cx} {g : G2}
end
end PV
set_option Elab.async false
set_option linter.all false
set_option maxRecDepth 100000
set_option maxHeartbeats 4000000
namespace ZH
open PySem PySem.W L2
def obsM (lams : List Str) (chk : Frag → Bool) (fn : List He5.DefA) (ds : Dks) (Ka : Frag) : He.AlT × Bool := (obsY chk fn ds (dropT lams Ka), tabsB lams Ka (dropT lams Ka))
def SaysM (lams : List Str) (chk : Frag → Bool) (fn : List He5.DefA) (ds : Dks) (w : World) (Ka : Frag) : Prop := obsM lams chk fn ds Ka = ((He5.valA fn, ds.map fun d => some (He.keysIn w.params d.2)), true)
section
variable {lams : List Str} {chk : Frag → Bool} {fn : List He5.DefA} {ds : Dks} {w : World} {Ka : Frag}
theorem SaysM.y (c : SaysM lams chk fn ds w Ka) : SaysY chk fn ds w (dropT lams Ka) := congrArg (fun z : He.AlT × Bool => z.1) c
theorem SaysM.t (c : SaysM lams chk fn ds w Ka) : tabsB lams Ka (dropT lams Ka) = true := congrArg (fun z : He.AlT × Bool => z.2) c
end
end ZH
set_option Elab.async false
set_option linter.all false
set_option maxRecDepth 100000
set_option maxHeartbeats 4000000
namespace PV
open PySem PySem.Spec PyProof.Rows L2 ZL
section
variable {X : Cx} {o e : Expr} {mo m : ME} {apos pos : Pos}
end
end PV
namespace PV
open PySem PySem.Spec PyProof.Rows L2 ZL
end PV
set_option Elab.async false
set_option linter.all false
set_option maxRecDepth 100000
set_option maxHeartbeats 4000000
namespace PV
open PySem PySem.Spec PyProof.Rows L2 ZL
section
variable {X : Cx} {c : String} {F : Fn} {j : Nat} {o : Expr} {mo : ME} {ms : MA} {apos pos : Pos} {m : Str} {p g : Addr} {mc : Value} {pl : Sem Bool} {kws : List Keyword} {ks : List Str}
end
end PV
set_option Elab.async false
set_option linter.all false
set_option maxRecDepth 100000
set_option maxHeartbeats 4000000
namespace PV
open PySem PySem.Spec PyProof.Rows L2 ZL
end PV
set_option Elab.async false
set_option linter.all false
set_option maxRecDepth 100000
set_option maxHeartbeats 4000000
namespace PV
open PySem PySem.Spec PyProof.Rows L2 ZL
def toM (d : D) : Option PyData := match toQ d with
  | some p => some p
  | none => match toP d with
    | some p => if p.hasDict = false then some p else none
    | none => none
def toMs : List D → Option (List PyData)
  | [] => some []
  | x :: xs => match toM x with
    | some p => (toMs xs).map (p :: ·)
    | none => none
section
variable {X : Cx} {pins : List (Addr × Obj)} {σ : L2.St} {H : Hp} {s : Shared} {G : Gh}
theorem reads_m (I : Inv X pins σ H s) (fr : ∀ a o, G.F a = some o → H a = some o) : ∀ (ds : List D) (vs : List V) (us : List Value) (ps : List PyData), Rps X.K G ds vs → Vals vs us → toMs ds = some ps → PyData.showableAll ps = true → (∀ t ∈ PyData.shownAll ps, t.length ≤ sizeLine) →
    ∃ as bs, ReadsAll s.heap us ps as ∧ ReadAtMost s.heap (PyData.depthAll ps) bs ∧ ReprAllK X.prog X.w bs s.heap (PyData.depthAll ps) us (PyData.shownAll ps)
  | [], _, _, _, r0, r, h, _, _ => by
    cases r0
    cases h
    cases r
    exact ⟨[], [], .nil, (fun _ h => nomatch h), by simp only [PyData.shownAll]; exact .nil⟩
  | d :: ds, _, _, _, r0, r, h, hs, hz => by
    cases r0 with
    | cons h1 h2 =>
      rw [toMs] at h
      split at h
      · rename_i p hp
        obtain ⟨ps, hps, rfl⟩ := Option.map_eq_some_iff.mp h
        cases r with
        | cons r1 r2 =>
          have hs' : p.showable = true ∧ PyData.showableAll ps = true := by simpa [PyData.showableAll] using hs
          obtain ⟨as, q1, n1⟩ : ∃ as, Reads s.heap _ p as ∧ (p.hasDict = true → sysModules ∉ as) := by
            unfold toM at hp
            split at hp
            · rename_i p' hq
              cases hp
              obtain ⟨as, q1, n1⟩ := reads_q I fr d _ _ p h1 r1 hq
              exact ⟨as, q1, fun _ => n1⟩
            · split at hp
              · rename_i p' hq
                split at hp
                · rename_i hd
                  cases hp
                  obtain ⟨as, q1⟩ := Dp.reads I p _ _ (Rp.dp fr d _ p h1 hq) r1
                  exact ⟨as, q1, fun z => by rw [hd] at z; cases z⟩
                · cases hp
              · cases hp
          obtain ⟨b1, hb1, k1⟩ := ReprK.of_reads (prog := X.prog) (w := X.w) q1 hs'.1 n1 (hz _ (by simp only [PyData.shownAll]; exact List.mem_cons_self ..))
          obtain ⟨bs, b2, q2, hb2, k2⟩ := reads_m I fr ds _ _ ps h2 r2 hps hs'.2 (fun t ht => hz t (by simp only [PyData.shownAll]; exact List.mem_cons_of_mem _ ht))
          refine ⟨as ++ bs, b1 ++ b2, .cons q1 q2, ?_, ?_⟩
          · intro b hm
            simp only [PyData.depthAll]
            rcases List.mem_append.mp hm with hm | hm
            · obtain ⟨d', as', r', hd'⟩ := hb1 b hm
              exact ⟨d', as', r', Nat.le_trans hd' (Nat.le_max_left _ _)⟩
            · obtain ⟨d', as', r', hd'⟩ := hb2 b hm
              exact ⟨d', as', r', Nat.le_trans hd' (Nat.le_max_right _ _)⟩
          · simp only [PyData.depthAll, PyData.shownAll]
            exact .cons ((k1.more fun b hb => List.mem_append_left _ hb).level_le (Nat.le_max_left _ _)) (k2.more_le (fun b hb => List.mem_append_right _ hb) (Nat.le_max_right _ _))
      · cases h
end
def reprM (g : Fn) : Fn := fun ds S => match ds with
  | [.lst (x :: xs)] => match toMs (x :: xs) with
    | some ps => if reprT (.list ps) = true then .ok (.str (PyData.list ps).shown) S else .no
    | none => g [.lst (x :: xs)] S
  | ds => g ds S
theorem cf_reprM {X : Cx} {g : Fn} (hg : X.A.guards = some []) (hu : X.A.units + 64 < cLine) (hgg : CallF X (.builtin "repr") g) : CallF X (.builtin "repr") (reprM g) := fun pins s σ H vs us Q I rv ⟨ds, S, G, sm, r, h⟩ => by
  unfold reprM at h
  split at h
  · split at h
    · rename_i x xs ps hp
      split at h
      · rename_i c
        simp only [reprT, Bool.and_eq_true, decide_eq_true_eq] at c
        obtain ⟨v, rfl, q⟩ := vals1 r
        cases q with
        | lst hq ha =>
          obtain ⟨u, rfl, e⟩ := L2.vals1 rv
          cases e
          obtain ⟨its, rw', ⟨o, n, ho, hc, _, hd⟩, _⟩ := I.list (SqL.of (sm.fr _ _ hq))
          obtain ⟨⟨cs, hz⟩, hdp⟩ := c
          have hz2 : (listText (PyData.shownAll ps)).length ≤ sizeLine := by simpa only [PyData.shown] using hdp
          obtain ⟨as, bs, q1, hb, hk⟩ := reads_m I sm.fr _ _ its ps ha rw' hp (by simpa [PyData.showable] using cs) (fun t ht => Nat.le_trans (listText_mem_le ht) hz2)
          have rl := Reads.list ho hc hd q1
          have hna := not_mem_of_deeper rl (by simp only [PyData.depth]; omega) hb
          simp only [PyData.depth] at hz
          cases its with
          | nil =>
            exfalso
            cases ha
            cases rw'
          | cons y ys =>
            have hh := hk.length_eq
            refine call_repr_slot (by omega) ⟨o, ho, hc⟩ PySem.F.slot_list_repr.toG ?_
            exact call_list_reprK ho hc (by rw [hd]) hna (by simpa using hh) (fun i y e => hk.item i y (by simpa using e)) hg (fun b _ => Clear.nil b) (by show X.A.units + 1 + _ < cLine; omega) (fun _ _ z => z) (fun h' u tk hk => ⟨_, _, rfl, ⟨.str _, H, I.kept hk, ⟨u, rfl⟩, h G H _ .refl sm (.str _)⟩⟩) hz2
      · exact h.elim
    · exact hgg pins s σ H vs us Q I rv ⟨_, S, G, sm, r, h⟩
  · exact hgg pins s σ H vs us Q I rv ⟨_, S, G, sm, r, h⟩
end PV
set_option Elab.async false
set_option linter.all false
set_option maxRecDepth 100000
set_option maxHeartbeats 4000000
namespace PV
open PySem PySem.Spec PyProof.Rows L2 ZL
section
variable {P : Program} {w : World} {K : PySem.W.Frag} {mg : Str → Option Value} {base : Heap} {x qual : Str} {st : Stmt} {f : Addr} {fd : FuncData} {N : List Str} {n j : Nat} {b : MS} {p1 pv kn : Str} {v0 : V} {dv : D}
section
variable (F : FunD K x qual (defArgs st) (defBody st) (defScope st) [] [(kn, v0)] f fd) (S : FnScope N ([p1, kn] ++ [pv]) (defScope st)) (hN : N.length = n)
    (hbody : ∀ (cdv : Value) (A : Around) (outer : List Env) (s : Shared) (H : Hp) (E : XK), Room j (A.deeper (envOfC qual (defScope st) s.heap.objs.size f cdv)) →
      QSs (cxOf (L2.CX P w) P w K mg base N qual (defScope st) f cdv A outer s H E) (defBody st) b)
include F S hN hbody
end
end
section
variable {M : Model} {A : Around} {E : Value → Shared → Prop} {s : Shared}
end
section
variable {X : Cx} {c : String} {F : Fn} {j : Nat} {f : Addr} {kn x : Str} {sp : Sp}
end
end PV
set_option Elab.async false
set_option linter.all false
set_option maxRecDepth 100000
set_option maxHeartbeats 4000000
namespace ZN
open PySem PySem.Spec PyProof.Rows L2
section
variable {P : Program} {w : World} {A : Around} {E : Value → Shared → Prop} {s : Shared}
end
end ZN
set_option Elab.async false
set_option linter.all false
set_option maxRecDepth 100000
set_option maxHeartbeats 4000000
namespace L2
open PySem PySem.Spec PyProof.Rows
end L2
namespace PV
open PySem PySem.Spec PyProof.Rows L2 ZL
end PV
set_option Elab.async false
set_option linter.all false
set_option maxRecDepth 100000
set_option maxHeartbeats 4000000
namespace ZN
open PySem PySem.Spec PyProof.Rows L2
abbrev lstO (acc : Array Value) (c : Nat) : Obj := { cls := .type "list", dict := none, data := .seq acc c, slots := #[] }
inductive Lay : Hp → List V → List V → List V → Hp → Prop
  | nil {H : Hp} : Lay H [] [] [] H
  | snoc {H H1 : Hp} {ts xs ys : List V} {t : Addr} {x y : V} (h : Lay H ts xs ys H1) (e : H1 t = none) : Lay H (ts ++ [V.ref t]) (xs ++ [x]) (ys ++ [y]) (upd H1 t (.tup [x, y]))
theorem adopt {X : Cx} {pins : List (Addr × Obj)} {σ : L2.St} {H : Hp} {s : Shared} {S : Addr} {acc : Array Value} {c : Nat} {ts : List V} (I : Inv X pins σ H s) (f : FpOk X pins H S) (hS : s.heap.get? S = some (lstO acc c)) (rt : Vals ts acc.toList) (hl : ts.length ≤ sizeLine) :
    Inv X pins σ (upd H S (.lst ts)) s := by
  have hn : H S = none := f.1
  exact I.step (g' := s.gens) (d' := s.drawn) (t' := s.toks) (h' := s.heap) (ch := [S]) (fun b hb => by rw [List.mem_singleton.mp hb]; exact ⟨f.2.2.2.1, f.2.1, f.2.2.2.2.1, f.2.2.2.2.2⟩) (fun b o _ _ _ e _ => e) (fun b o _ _ _ e _ => ⟨o.slots, e⟩)
    (fun b o hb _ n => by rw [upd_ne (fun z => hb (by simp [z]))]; exact n) (fun b o _ e => ⟨o, e⟩) (fun b xs e => by rw [upd_ne (ne_of_none e hn)]; exact e) (fun b o u e => by rw [upd_ne (ne_of_none e hn)]; exact e) (fun b ps e => ⟨#[], by rw [upd_ne (ne_of_none e hn), e]; simp⟩)
    (fun _ h => h) (fun b u e => by
      by_cases hb : b = S
      · subst hb
        rw [upd_same] at e
        cases e
        exact ⟨hl, acc.toList, c, rt, by rw [hS]⟩
      · rw [upd_ne hb] at e
        exact (I.hok b u e).stay (fun _ _ _ z => z) (fun d z => by rw [upd_ne (ne_of_none z hn)]; exact z) fun d xs z => by rw [upd_ne (ne_of_none z hn)]; exact z) I.bare
theorem Lay.len {H H' : Hp} {ts xs ys : List V} (h : Lay H ts xs ys H') : ts.length = xs.length := by
  induction h with
  | nil => rfl
  | snoc _ _ ih => simp [ih]
section
variable {X : Cx} {pins : List (Addr × Obj)} {σ : L2.St} {A : Around} {R : Result → Shared → Prop} {z TI TO i1 i2 a b S : Addr} {xs ys : List V} {H0 : Hp} {res : Value}
end
end ZN
namespace L2
open PySem PySem.Spec PyProof.Rows
end L2
namespace PV
open PySem PySem.Spec PyProof.Rows L2 ZL
section
variable {X : Cx} {e a : Expr} {es : List Expr} {m : ME} {ms : MA} {g : G2} {y z : Str} {i j n : Nat} {c0 c1 apos pos : Pos}
end
end PV
set_option Elab.async false
set_option linter.all false
set_option maxRecDepth 100000
set_option maxHeartbeats 4000000
namespace PV
open PySem PySem.Spec PyProof.Rows L2 ZL
end PV
set_option Elab.async false
set_option linter.all false
set_option maxRecDepth 100000
set_option maxHeartbeats 4000000
namespace PV
open PySem PySem.Spec PyProof.Rows L2 ZL
end PV
set_option Elab.async false
set_option linter.all false
set_option maxRecDepth 100000
set_option maxHeartbeats 4000000
namespace GQN
open PySem PySem.SeqAt PyProof.Rows
open AutoSeq1 (wpAny_loadPart')
open MeetsSeq MeetsSeq2 MeetsSeq3 SeqRoads2
open GQ
section
variable {prog : Program} {w : World} {A : Around} {R : Result → Shared → Prop}
end
section
variable {prog : Program} {w : World} {A : Around} {E : Value → Shared → Prop} {s : Shared}
end
end GQN
namespace PV
open PySem PySem.Spec PyProof.Rows L2 ZL
end PV
set_option Elab.async false
set_option linter.all false
set_option maxRecDepth 100000
set_option maxHeartbeats 4000000
namespace PV
open PySem PySem.Spec PyProof.Rows L2 ZL
end PV
set_option Elab.async false
set_option linter.all false
set_option maxRecDepth 100000
set_option maxHeartbeats 4000000
namespace ZL
open PySem PySem.Spec PyProof.Rows L2
section
open PySem.W
variable {prog : Program} {w : World} {A : Around} {E : Value → Shared → Prop} {s : Shared} {K : Frag} {x C C2 f : Addr} {od : Option Obj} {ox : Obj} {nm : String} {Q : Value → Shared → Prop} {u : Value}
end
end ZL
namespace PV
open PySem PySem.Spec PyProof.Rows L2 ZL
end PV
set_option Elab.async false
set_option linter.all false
set_option maxRecDepth 100000
set_option maxHeartbeats 4000000
namespace PV
open PySem PySem.Spec PyProof.Rows L2
section
variable {X : Cx} {c : String} {F : Fn} {j n : Nat} {f : Addr} {ms ms2 : MA} {p pos : Pos} {e : Expr} {es : List Expr} {kws : List Keyword} {ks : List Str}
end
end PV
set_option Elab.async false
set_option linter.all false
set_option maxRecDepth 100000
set_option maxHeartbeats 4000000
namespace PV
open PySem PySem.Spec PyProof.Rows L2
end PV
set_option Elab.async false
set_option linter.all false
set_option maxRecDepth 100000
set_option maxHeartbeats 4000000
namespace PV
open PySem PySem.Spec PyProof.Rows L2 ZL
structure SupD (P : Program) (K : PySem.W.Frag) (x qual : Str) (params : Arguments) (body : List Stmt) (scope : Scope) (dvs : List V) (f D : Addr) (cdv : Value) (cc : Addr) (fd : FuncData) : Prop where
  lk : ∃ (oc : Value) (od : Option Addr) (osl : Array (Option Value)), K.lookup f = some ⟨oc, od, .func fd, osl⟩
  fd : ∃ (dV kV doc pm : Value) (an : Option Addr) (ct : Value), fd = PySem.W.ksFn x qual params body scope dV kV doc pm an cdv ct cc ∧ DflV K dV dvs
  code : PySem.W.codeIn K cdv qual = true
  cell : ∃ (cl : Value) (cld : Option Addr) (csl : Array (Option Value)), K.lookup cc = some ⟨cl, cld, .cell (some (.ref D)), csl⟩
  cls : ∃ cd, PySem.W.clsIn K D = some cd
  file : ∃ (cda : Addr) (ccl : Value) (cdd : Option Addr) (vs : Array Value) (ccs : Array (Option Value)) (file : Str) (tf : Tok), cdv = .ref cda ∧ K.lookup cda = some ⟨ccl, cdd, .fields vs, ccs⟩ ∧ vs[2]? = some (.str file tf) ∧ ((P.main.file : Str) == file) = true
  top : (P.main.scope.names.lookup ("super" : Str)).isSome = false
  opq : PySem.W.nsIn K cStatics "thirdparty.any" = some none
section
variable {X : Cx} {pins : List (Addr × Obj)} {σ : L2.St} {H : Hp} {s : Shared}
end
section
variable {P : Program} {w : World} {K : PySem.W.Frag} {mg : Str → Option Value} {base : Heap} {N ps : List Str} {x qual m : Str} {params : Arguments} {scope : Scope} {f cc D f2 C : Addr} {cdv : Value} {fd : FuncData} {A : Around} {outer : List Env} {s : Shared} {H : Hp} {E : XK}
  {rest : List Stmt} {body : List Stmt} {e : Expr} {es : List Expr} {p0 p1 apos pos epos : Pos} {k j : Nat} {sp : Sp} {dvs : List V}
end
section
variable {P : Program} {w : World} {K : PySem.W.Frag} {mg : Str → Option Value} {base : Heap} {N ps : List Str} {x qual : Str} {params : Arguments} {body rest : List Stmt} {scope : Scope} {f cc D : Addr} {cdv : Value} {fd : FuncData} {e : Expr} {es : List Expr} {p0 p1 apos pos epos : Pos} {j : Nat} {dvs : List V} {b : MS} {ms : MA}
end
end PV
set_option Elab.async false
set_option linter.all false
set_option maxRecDepth 100000
set_option maxHeartbeats 4000000
namespace PV
open PySem PySem.Spec PyProof.Rows L2 ZL
section
variable {P : Program} {w : World} {K : PySem.W.Frag} {mg : Str → Option Value} {base : Heap} {N ps : List Str} {x qual : Str} {params : Arguments} {body : List Stmt} {scope : Scope} {f cc Dc : Addr} {cdv : Value} {fd : FuncData} {k n : Nat} {dvs : List V} {dds : List D} {F : Fn}
theorem FnKO.mono {j : Nat} {f : Addr} {F : Fn} {ks : List Str} (h : FnKO P w K mg base j f n ks F) (hj : j ≤ k) : FnKO P w K mg base k f n ks F := by
  obtain ⟨fd, ps, g, gV, sp, Fk, hb, hsp⟩ := h
  exact ⟨fd, ps, g, gV, sp, Fk.mono hj, hb, hsp⟩
end
structure SupA where
  at_ : PySem.W.Frag → Addr
  D : PySem.W.Frag → Addr
  name : Str
  qual : Str
  params : Arguments
  body : List Stmt
  scope : Scope
  file : Str
  dfl : List He.Dv := []
def SupA.dvs (K : PySem.W.Frag) (d : SupA) : List V := d.dfl.map (He.Dv.v K)
def ccOf (K : PySem.W.Frag) (a : Addr) : Addr := match K.lookup a with
  | some ⟨_, _, .func fd, _⟩ => (match fd.closure with | (_, c) :: _ => c | _ => 0)
  | _ => 0
def supV (K : PySem.W.Frag) (d : SupA) : He5.FnW := some (d.name, d.qual, d.params, .stmts d.body, d.scope, mainGlobals, [(("__class__" : Str), ccOf K (d.at_ K))], builtinsNs)
def fileB (K : PySem.W.Frag) (cdv : Value) (file : Str) : Bool := match cdv with
  | .ref c => (match K.lookup c with
    | some ⟨_, _, .fields vs, _⟩ => (match (vs[2]? : Option Value) with
      | some (.str f _) => decide (f = file)
      | _ => false)
    | _ => false)
  | _ => false
theorem fileB_ok {K : PySem.W.Frag} {cdv : Value} {file : Str} (h : fileB K cdv file = true) :
    ∃ (cda : Addr) (ccl : Value) (cdd : Option Addr) (vs : Array Value) (ccs : Array (Option Value)) (tf : Tok), cdv = .ref cda ∧ K.lookup cda = some ⟨ccl, cdd, .fields vs, ccs⟩ ∧ (vs[2]? : Option Value) = some (.str file tf) := by
  unfold fileB at h
  cases cdv with
  | ref c =>
    have h : (match K.lookup c with
      | some ⟨_, _, .fields vs, _⟩ => (match (vs[2]? : Option Value) with
        | some (.str f _) => decide (f = file)
        | _ => false)
      | _ => false) = true := h
    cases q : K.lookup c with
    | none => rw [q] at h; cases h
    | some o =>
      obtain ⟨oc, od, dt, osl⟩ := o
      rw [q] at h
      cases dt with
      | fields vs =>
        have h : (match (vs[2]? : Option Value) with
          | some (.str f _) => decide (f = file)
          | _ => false) = true := h
        cases e : (vs[2]? : Option Value) with
        | none => rw [e] at h; cases h
        | some u =>
          rw [e] at h
          cases u with
          | str f t =>
            have z : f = file := of_decide_eq_true h
            subst z
            exact ⟨c, oc, od, vs, osl, t, rfl, q, e⟩
          | _ => cases h
      | _ => cases h
  | _ => cases h
def cellB (K : PySem.W.Frag) (cc D : Addr) : Bool := match K.lookup cc with
  | some ⟨_, _, .cell (some (.ref d)), _⟩ => decide (d = D)
  | _ => false
theorem cellB_ok {K : PySem.W.Frag} {cc D : Addr} (h : cellB K cc D = true) : ∃ (cl : Value) (cld : Option Addr) (csl : Array (Option Value)), K.lookup cc = some ⟨cl, cld, .cell (some (.ref D)), csl⟩ := by
  unfold cellB at h
  cases q : K.lookup cc with
  | none => rw [q] at h; cases h
  | some o =>
    obtain ⟨oc, od, dt, osl⟩ := o
    rw [q] at h
    cases dt with
    | cell v =>
      cases v with
      | none => cases h
      | some u =>
        cases u with
        | ref d =>
          have z : d = D := of_decide_eq_true h
          subst z
          exact ⟨oc, od, osl, rfl⟩
        | _ => cases h
    | _ => cases h
def SupA.ok (K : PySem.W.Frag) (d : SupA) : Bool := (match K.lookup (d.at_ K) with
  | some ⟨_, _, .func fd, _⟩ => PySem.W.codeIn K fd.code d.qual && (He.dflB K fd.defaults (d.dvs K) && fileB K fd.code d.file)
  | _ => false) && (cellB K (ccOf K (d.at_ K)) (d.D K) && ((PySem.W.clsIn K (d.D K)).isSome && He.eqO (PySem.W.nsIn K cStatics "thirdparty.any") (some none)))
def SupSays (sups : List SupA) (K : PySem.W.Frag) : Prop := (sups.all fun d => d.ok K) = true ∧ (sups.map fun d => He5.fnA K (d.at_ K)) = sups.map (supV K)
structure PrOk (P : Program) (file : Str) : Prop where
  file : (P.main.file : Str) = file
  top : (P.main.scope.names.lookup ("super" : Str)).isSome = false
theorem SupA.supD {P : Program} {K : PySem.W.Frag} {d : SupA} (e : He5.fnA K (d.at_ K) = supV K d) (c : d.ok K = true) (po : PrOk P d.file) :
    ∃ cdv fd, SupD P K d.name d.qual d.params d.body d.scope (d.dvs K) (d.at_ K) (d.D K) cdv (ccOf K (d.at_ K)) fd := by
  obtain ⟨c1, c2⟩ := He.ba c
  obtain ⟨c3, c4⟩ := He.ba c2
  obtain ⟨c5, c6⟩ := He.ba c4
  have hcell := cellB_ok c3
  have hop := He.eqO_ok c6
  have hcls : ∃ cd, PySem.W.clsIn K (d.D K) = some cd := Option.isSome_iff_exists.mp c5
  unfold supV at e
  unfold He5.fnA at e
  generalize hcc : ccOf K (d.at_ K) = cc at *
  cases q : K.lookup (d.at_ K) with
  | none => rw [q] at c1; cases c1
  | some o =>
    obtain ⟨oc, od, dt, osl⟩ := o
    rw [q] at c1 e
    cases dt with
    | func fd =>
      obtain ⟨n1, n2, n3, n4, n5, n6, n7, n8, n9, n10, n11, n12, n13, n14, n15⟩ := fd
      have e2 : (some (n1, n2, n3, n4, n5, n6, n7, n15) : He5.FnW) = some (d.name, d.qual, d.params, .stmts d.body, d.scope, mainGlobals, [(("__class__" : Str), cc)], builtinsNs) := e
      simp only [Option.some.injEq, Prod.mk.injEq] at e2
      obtain ⟨h1, h2, h3, h4, h5, h6, h7, h8⟩ := e2
      have c7 : (PySem.W.codeIn K n13 d.qual && (He.dflB K n8 (d.dvs K) && fileB K n13 d.file)) = true := c1
      obtain ⟨k1, k2⟩ := He.ba c7
      obtain ⟨k3, k4⟩ := He.ba k2
      obtain ⟨cda, ccl, cdd, vs, ccs, tf, f1, f2, f3⟩ := fileB_ok k4
      refine ⟨n13, _, ⟨oc, od, osl, q⟩, ⟨n8, n9, n10, n11, n12, n14, ?_, He.dflB_ok k3⟩, k1, hcell, hcls, ⟨cda, ccl, cdd, vs, ccs, d.file, tf, f1, f2, f3, ?_⟩, po.top, hop⟩
      · rw [h1, h2, h3, h4, h5, h6, h7, h8]
      · rw [po.file]; exact beq_self_eq_true _
    | _ => cases c1
theorem SupSays.def_ {P : Program} {sups : List SupA} {K : PySem.W.Frag} (c : SupSays sups K) (i : Nat) {d : SupA} (po : PrOk P d.file) (h : sups[i]? = some d := by rfl) :
    ∃ cdv fd, SupD P K d.name d.qual d.params d.body d.scope (d.dvs K) (d.at_ K) (d.D K) cdv (ccOf K (d.at_ K)) fd := by
  have e2 : (sups.map fun d => He5.fnA K (d.at_ K))[i]? = (sups.map (supV K))[i]? := by rw [c.2]
  rw [List.getElem?_map, List.getElem?_map, h] at e2
  exact SupA.supD (Option.some.inj e2) (List.all_eq_true.mp c.1 d (List.mem_of_getElem? h)) po
inductive Cv where
  | non | bl (b : Bool) | int (i : Int) | str (x : Str)
deriving DecidableEq
def Cv.dv : Cv → He.Dv
  | .non => .non
  | .bl b => .bl b
  | .int i => .int i
  | .str x => .str x
def Cv.d : Cv → D
  | .non => .non
  | .bl b => .bl b
  | .int i => .int i
  | .str x => .str x
end PV
set_option Elab.async false
set_option linter.all false
set_option maxRecDepth 100000
set_option maxHeartbeats 4000000
namespace PV
open PySem PySem.Spec PyProof.Rows L2 ZL
def icG (τ : List (String × D)) (f : String) : G1 := fun d S => match insOf S d with
  | some (c, fs) => match τ.lookup c with
    | some x => match fs.lookup f with
      | none => .ok x S
      | some _ => .no
    | none => .no
  | none => .no
section
variable {X : Cx} {e : Expr} {m : ME} {pos : Pos}
end
abbrev MC : Type := Str → MS
def mcN : MC := fun _ => sNil
def mcC (c : Str) (b : MS) (r : MC) : MC := fun z ρ S => if z = c then b ρ S else r z ρ S
def mcW (b : MS) : MC := fun _ => b
def sMtc (m : ME) (r : MC) : MS := fun ρ S => (m ρ S).bind fun d S1 => match d with
  | .str z => r z ρ S1
  | _ => .no
section
variable {X : Cx} {e : Expr} {m : ME} {pos p1 p2 : Pos} {body : List Stmt} {b : MS} {rest : List MatchCase} {r : MC} {c : Str} {j : Nat}
end
def mtKN (τ : List (String × Fn)) (n : String) (k : Nat) (o : ME) (ms : MA) : ME := fun ρ S => (o ρ S).bind fun x S1 => match insOf S1 x with
  | some (c, fs) => match τ.lookup c with
    | some F => match fs.lookup n with
      | none => (ms ρ S1).bind fun ds S2 => if ds.length = k then F (x :: ds) S2 else .no
      | some _ => .no
    | none => .no
  | none => .no
def mtPK (τ : List (String × Fn)) (n : String) (a k : Nat) (o : ME) (ms ks : MA) : ME := fun ρ S => (o ρ S).bind fun x S1 => match insOf S1 x with
  | some (c, fs) => match τ.lookup c with
    | some F => match fs.lookup n with
      | none => (ms ρ S1).bind fun xs S2 => (ks ρ S2).bind fun ys S3 => if xs.length = a ∧ ys.length = k then F (x :: (xs ++ ys)) S3 else .no
      | some _ => .no
    | none => .no
  | none => .no
section
variable {X : Cx} {e o : Expr} {es : List Expr} {mo : ME} {ms ms2 : MA} {pos apos : Pos} {kws : List Keyword} {ks : List Str} {j : Nat} {pl : Sem Bool}
end
end PV
set_option Elab.async false
set_option linter.all false
set_option maxRecDepth 100000
set_option maxHeartbeats 4000000
namespace PV
open PySem PySem.Spec PyProof.Rows L2 ZL RZ
theorem Rpk.gone {K : PySem.W.Frag} {G : Gh} {es : List (Str × D)} {kvs : List (Key × V)} (r : Rpk K G es kvs) {z : Str} (h : esG es z = none) : valV kvs (.inr z) = none := by
  induction r with
  | nil => rfl
  | @cons x d' v es kvs hv t ih =>
    unfold esG at h
    rw [List.find?_cons] at h
    by_cases q : x = z
    · rw [decide_eq_true q] at h
      cases h
    · rw [decide_eq_false q] at h
      have h1 := ih h
      have ne : ¬ ((Sum.inr x : Key) = .inr z) := fun e => q (Sum.inr.inj e)
      unfold valV at h1 ⊢
      rw [List.find?_cons, decide_eq_false ne]
      exact h1
section
variable {X : Cx}
end
end PV
set_option Elab.async false
set_option linter.all false
set_option maxRecDepth 100000
set_option maxHeartbeats 4000000
namespace PV
open PySem PySem.Spec PyProof.Rows L2 ZL
section
variable {X : Cx} {g : G2}
end
end PV
set_option Elab.async false
set_option linter.all false
set_option maxRecDepth 100000
set_option maxHeartbeats 4000000
namespace PV
open PySem PySem.Spec PyProof.Rows L2 ZL
def KwCh {α : Type} (D : Addr) : List (Str × Value) → Sem α → Sem α → Prop
  | [], t, r => t = r
  | q :: l, t, r => ∃ (β γ : Type) (k1 : Option Value → Sem β) (k2 : β → Sem γ) (k3 : γ → Sem α) (a : β), t = ((nsGet D q.1 >>= k1) >>= k2) >>= k3 ∧ k1 (some q.2) = pure a ∧ KwCh D l (k2 a >>= k3) r
theorem KwCh.run {α : Type} {K : PySem.W.Frag} {M : Model} {A : Around} {E : Value → Shared → Prop} {Q : α → Shared → Prop} {s : Shared} {D : Addr} (X : K.In s.heap) : ∀ {l : List (Str × Value)} {t r : Sem α}, (∀ q ∈ l, PySem.W.nsIn K D q.1 = some (some q.2)) → KwCh D l t r → wpAny M A r Q E s → wpAny M A t Q E s
  | [], t, r, _, e, z => by
    have e : t = r := e
    rw [e]
    exact z
  | q :: l, t, r, hl, e, z => by
    obtain ⟨β, γ, k1, k2, k3, a, e1, e2, e3⟩ := e
    have L : PySem.W.Looks M s.heap (nsGet D q.1 >>= k1) a := (PySem.W.looks_nsIn X (hl q (List.mem_cons_self ..))).andThen (PySem.W.Looks.of_pure e2)
    rw [e1, bind_assoc]
    refine wpAny_bind (L.here ?_)
    exact KwCh.run X (fun p hp => hl p (List.mem_cons_of_mem _ hp)) e3 z
def FnKG (P : Program) (w : World) (K : PySem.W.Frag) (mg : Str → Option Value) (base : Heap) (k : Nat) (f : Addr) (np : Nat) (ks : List Str) (F : Fn) : Prop :=
  ∀ (A : Around) (outer : List Env) (s : Shared) (H : Hp) (us us2 ws : List Value) (vs : List V) (Q : VK) (E : XK), us.length = np → ws.length = ks.length → Room k A → Env0 P w K mg base A outer s H → Vals vs ((us ++ us2) ++ ws) → spF K F vs H Q E →
    codeAny (model P w) A (.call (.ref f) ⟨us ++ us2, ks.zip ws⟩) (CR (L2.CX P w) outer P w H s Q E) s
theorem FnKG.mono {P : Program} {w : World} {K : PySem.W.Frag} {mg : Str → Option Value} {base : Heap} {j k : Nat} {f : Addr} {np : Nat} {ks : List Str} {F : Fn} (h : FnKG P w K mg base j f np ks F) (hj : j ≤ k) : FnKG P w K mg base k f np ks F :=
  fun A outer s H us us2 ws vs Q E l1 l2 hr => h A outer s H us us2 ws vs Q E l1 l2 (hr.mono hj)
section
variable {P : Program} {w : World} {K : PySem.W.Frag} {mg : Str → Option Value} {base : Heap} {x qual : Str} {st : Stmt} {f : Addr} {fd : FuncData} {N ps : List Str} {n m np j : Nat} {b : MS} {pv : Str} {kws : List (Str × V)} {dds : List D} {ks : List Str} {idx : List Nat}
end
section
variable {X : Cx} {c : String} {F : Fn} {j : Nat} {f : Addr}
end
end PV
set_option Elab.async false
set_option linter.all false
set_option maxRecDepth 100000
set_option maxHeartbeats 4000000
namespace PV
open PySem PySem.Spec PyProof.Rows L2 ZL
section
variable {P : Program} {w : World} {K : PySem.W.Frag} {mg : Str → Option Value} {base : Heap} {N ps : List Str} {x qual : Str} {params : Arguments} {body pre rest : List Stmt} {scope : Scope} {f cc D : Addr} {cdv : Value} {fd : FuncData} {e : Expr} {es : List Expr} {p0 p1 apos pos epos : Pos} {j : Nat} {dvs : List V} {b bp : MS} {ms : MA}
end
end PV
set_option Elab.async false
set_option linter.all false
set_option maxRecDepth 100000
set_option maxHeartbeats 4000000
namespace PV
open PySem PySem.Spec PyProof.Rows L2 ZL
section
variable {X : Cx} {k : Nat} {C p g a dx : Addr} {fs : List (Str × V)} {f : Str} {sp : Sp}
end
end PV
set_option Elab.async false
set_option linter.all false
set_option maxRecDepth 100000
set_option maxHeartbeats 4000000
namespace PV
open PySem PySem.Spec PyProof.Rows L2 ZL
end PV
set_option Elab.async false
set_option linter.all false
set_option maxRecDepth 100000
set_option maxHeartbeats 4000000
namespace GQN
open PySem PySem.SeqAt PyProof.Rows
open AutoSeq1 (wpAny_loadPart')
open MeetsSeq MeetsSeq2 MeetsSeq3 SeqRoads2
open GQ
section
variable {prog : Program} {w : World} {A : Around} {R : Result → Shared → Prop}
end
section
variable {prog : Program} {w : World} {A : Around} {E : Value → Shared → Prop} {s : Shared}
end
section
variable {prog : Program} {w : World} {A : Around} {R : Result → Shared → Prop}
end
end GQN
namespace ZL
open PySem PySem.Spec PyProof.Rows L2
open PySem.W
section
variable {prog : Program} {w : World} {A : Around} {E : Value → Shared → Prop} {s : Shared} {K : Frag} {x y C C2 L f : Addr} {h₀ : Heap} {m : Str → Option Value} {ox oy : Obj} {od od2 : Option Obj}
end
end ZL

namespace PV
open PySem PySem.Spec PyProof.Rows L2 ZL
def kd : D → Nat
  | .non => 0
  | .bl _ => 1
  | .int _ => 2
  | .str _ => 3
  | .ty _ => 5
  | _ => 4
def aparts (f : D → D → Bool) : List D → List D → Bool
  | [], [] => false
  | x :: xs, y :: ys => f x y || aparts f xs ys
  | _, _ => true
def apartf (f : D → D → Bool) : List (String × D) → List (String × D) → Bool
  | [], [] => false
  | (_, x) :: xs, (_, y) :: ys => f x y || apartf f xs ys
  | _, _ => true
def apart (dj : List (String × String)) : Nat → D → D → Bool
  | 0, _, _ => false
  | n + 1, x, y => match x, y with
    | .int i, .int j => decide (i ≠ j)
    | .str a, .str b => decide (a ≠ b)
    | .bl a, .bl b => decide (a ≠ b)
    | .tup xs, .tup ys => aparts (apart dj n) xs ys
    | .lst xs, .lst ys => aparts (apart dj n) xs ys
    | .obj c fs, .obj d gs => dj.contains (c, d) || apartf (apart dj n) fs gs
    | .loc i, .loc j => decide (i ≠ j)
    | x, y => decide (kd x ≠ kd y)
section
variable {X : Cx} {pins : List (Addr × Obj)} {σ : L2.St} {H : Hp} {s : Shared} {G : Gh} {S : Sto} {dj : List (String × String)}
end
structure EqT where
  τ : List (String × Fn)
  prs : List (String × String)
  sb : List (String × String)
  dj : List (String × String)
section
variable {X : Cx} {j : Nat} {T : EqT}
def BackE (X : Cx) (pins : List (Addr × Obj)) (σ : L2.St) (G : Gh) (S : Sto) (H : Hp) (s' : Shared) : Prop := ∃ G1 H1, Inv X pins σ H1 s' ∧ Stp G H G1 H1 ∧ Sm X.K G1 S H1
theorem BackE.trans {pins : List (Addr × Obj)} {σ : L2.St} {G G1 : Gh} {S : Sto} {H H1 : Hp} {s' : Shared} (st : Stp G H G1 H1) (h : BackE X pins σ G1 S H1 s') : BackE X pins σ G S H s' := by
  obtain ⟨G2, H2, I2, st2, sm2⟩ := h
  exact ⟨G2, H2, I2, st.trans st2, sm2⟩
end
end PV
set_option Elab.async false
set_option linter.all false
set_option maxRecDepth 100000
set_option maxHeartbeats 4000000
namespace PV
open PySem PySem.Spec PyProof.Rows L2 ZL
section
variable {X : Cx} {c : String} {F : Fn} {j : Nat} {f : Addr}
end
end PV
set_option Elab.async false
set_option linter.all false
set_option maxRecDepth 100000
set_option maxHeartbeats 4000000
namespace PV
open PySem PySem.Spec PyProof.Rows L2 ZL
end PV
set_option Elab.async false
set_option linter.all false
set_option maxRecDepth 100000
set_option maxHeartbeats 4000000
namespace ZL
open PySem PySem.Spec PyProof.Rows L2
section
open PySem.W
variable {prog : Program} {w : World} {A : Around} {E : Value → Shared → Prop} {s : Shared} {K : Frag} {x C C2 f : Addr} {od : Option Obj} {ox : Obj} {nm : String} {Q : Value → Shared → Prop} {u : Value}
end
end ZL
namespace PV
open PySem PySem.Spec PyProof.Rows L2 ZL
end PV
set_option Elab.async false
set_option linter.all false
set_option maxRecDepth 100000
set_option maxHeartbeats 4000000
namespace PV
open PySem PySem.Spec PyProof.Rows L2 ZL
section
variable {X : Cx} {c : String} {p pos pos' : Pos} {ms : MA}
end
end PV
set_option Elab.async false
set_option linter.all false
set_option maxRecDepth 100000
set_option maxHeartbeats 4000000
namespace PV
open PySem PySem.Spec PyProof.Rows L2 ZL
end PV
set_option Elab.async false
set_option linter.all false
set_option maxRecDepth 100000
set_option maxHeartbeats 4000000
namespace PV
open PySem PySem.Spec PyProof.Rows L2 ZL
section
variable {X : Cx} {j : Nat} {c : String} {f f' : Addr} {F : Fn} {g : G2}
end
end PV
set_option Elab.async false
set_option linter.all false
set_option maxRecDepth 100000
set_option maxHeartbeats 4000000
namespace PV
open PySem PySem.Spec PyProof.Rows L2 ZL RZ
end PV
set_option Elab.async false
set_option linter.all false
set_option maxRecDepth 100000
set_option maxHeartbeats 4000000
namespace PV
open PySem PySem.Spec PyProof.Rows L2 ZL
section
variable {X : Cx} {o e : Expr} {es : List Expr} {mo : ME} {ms : MA} {apos cpos : Pos}
end
end PV
set_option Elab.async false
set_option linter.all false
set_option maxRecDepth 100000
set_option maxHeartbeats 4000000
namespace PV
open PySem PySem.Spec PyProof.Rows L2 ZL
end PV
set_option Elab.async false
set_option linter.all false
set_option maxRecDepth 100000
set_option maxHeartbeats 4000000
namespace PV
open PySem PySem.Spec PyProof.Rows L2 ZL
end PV
set_option Elab.async false
set_option linter.all false
set_option maxRecDepth 100000
set_option maxHeartbeats 4000000
namespace PV
open PySem PySem.Spec PyProof.Rows L2 ZL
end PV
set_option Elab.async false
set_option linter.all false
set_option maxRecDepth 100000
set_option maxHeartbeats 4000000
namespace PV
open PySem PySem.Spec PyProof.Rows L2 ZL
section
variable {X : Cx} {o e : Expr} {es : List Expr} {mo m : ME} {ms : MA} {apos cpos pos : Pos}
end
end PV
set_option Elab.async false
set_option linter.all false
set_option maxRecDepth 100000
set_option maxHeartbeats 4000000
namespace PV
open PySem PySem.Spec PyProof.Rows L2 ZL
end PV
set_option Elab.async false
set_option linter.all false
set_option maxRecDepth 100000
set_option maxHeartbeats 4000000
namespace PV
open PySem PySem.Spec PyProof.Rows L2 ZL
section
variable {X : Cx} {CX : CXT} {k : Nat} {f C : Addr} {sp : Sp} {E : XK}
end
section
variable {X : Cx} {pos : Pos}
end
end PV
set_option Elab.async false
set_option linter.all false
set_option maxRecDepth 100000
set_option maxHeartbeats 4000000
namespace PV
open PySem PySem.Spec PyProof.Rows L2 ZL
end PV
set_option Elab.async false
set_option linter.all false
set_option maxRecDepth 100000
set_option maxHeartbeats 4000000
namespace PV
open PySem PySem.Spec PyProof.Rows L2 ZL
section
variable {X : Cx}
end
end PV
set_option Elab.async false
set_option linter.all false
set_option maxRecDepth 100000
set_option maxHeartbeats 4000000
namespace PV
open PySem PySem.Spec PyProof.Rows L2 ZL HotX
end PV
set_option Elab.async false
set_option linter.all false
set_option maxRecDepth 100000
set_option maxHeartbeats 4000000
namespace PV
open PySem PySem.Spec PyProof.Rows L2 ZL
section
variable {X : Cx} {c : String} {p np pos pos' : Pos} {ms : MA}
end
end PV
set_option Elab.async false
set_option linter.all false
set_option maxRecDepth 100000
set_option maxHeartbeats 4000000
namespace PV
open PySem PySem.Spec PyProof.Rows L2 ZL
end PV
set_option Elab.async false
set_option linter.all false
set_option maxRecDepth 100000
set_option maxHeartbeats 4000000
namespace PV
open PySem PySem.Spec PyProof.Rows L2 ZL RZ
end PV
set_option Elab.async false
set_option linter.all false
set_option maxRecDepth 100000
set_option maxHeartbeats 4000000
namespace PV
open PySem PySem.Spec PyProof.Rows L2 ZL RZ
end PV
set_option Elab.async false
set_option linter.all false
set_option maxRecDepth 100000
set_option maxHeartbeats 4000000
namespace ZL
open PySem PySem.Spec PyProof.Rows L2
section
open PySem.W
variable {prog : Program} {w : World} {A : Around} {E : Value → Shared → Prop} {s : Shared} {K : Frag} {x C C2 f f2 : Addr} {od : Option Obj} {ox : Obj} {Q : Value → Shared → Prop} {u : Value}
end
end ZL
namespace PV
open PySem PySem.Spec PyProof.Rows L2 ZL
end PV
set_option Elab.async false
set_option linter.all false
set_option maxRecDepth 100000
set_option maxHeartbeats 4000000
namespace GLn
open PySem PySem.Spec PyProof.Rows L2 GenW
section
variable {prog : Program} {w : World} {A : Around} {E : Value → Shared → Prop} {s : Shared}
end
end GLn
namespace PV
open PySem PySem.Spec PyProof.Rows L2 ZL
section
variable {P : Program} {w : World} {K : PySem.W.Frag} {mg : Str → Option Value} {base : Heap} {x qual : Str} {st st1 : Stmt} {kws : List (Str × V)} {f : Addr} {fd : FuncData} {N ps : List Str} {j : Nat} {b : MS} {m : ME} {e : Expr} {yp pos : Pos}
end
end PV
set_option Elab.async false
set_option linter.all false
set_option maxRecDepth 100000
set_option maxHeartbeats 4000000
namespace GLr
open PySem PySem.Spec PyProof.Rows L2 GenW
abbrev SpX := List V → Hp → XK → Prop
def RMade (P : Program) (w : World) (k : Nat) (outer : List Env) (H : Hp) (s : Shared) (E : XK) (u : Value) (s' : Shared) : Prop :=
  ∃ (a : Addr) (g : Nat) (c : Code), u = .ref a ∧ s.heap.objs.size ≤ a ∧ a < s'.heap.objs.size ∧ s'.heap.IsGen a g ∧ s'.gens[g]? = some (.fresh c) ∧ s'.os = s.os ∧ AllBare s'.gens ∧ s'.heap.NoLimit ∧ (∀ b o, s.heap.get? b = some o → s'.heap.get? b = some o) ∧
    ∀ (A : Around) (S : Addr) (oS : Obj) (Y : Protocol) (n : Nat) (s2 : Shared), Room k A → A.frames = some outer → s'.heap.objs.size ≤ S → (∀ b o, s'.heap.get? b = some o → s2.heap.get? b = some o) → s2.heap.get? S = some oS → (∀ v, oS.data ≠ .cell v) → s2.os = s.os → AllBare s2.gens →
      Seg (model P w) A (fun _ _ r s1 => ∃ e, r = .error e ∧ CX P w outer H s E e s1 ∧ s1.heap.IsGen a g ∧ s1.heap.get? S = some oS) Y n s2 c ((model P w).den c) [] s2
structure GRa (P : Program) (w : World) (K : PySem.W.Frag) (mg : Str → Option Value) (base : Heap) (k : Nat) (f : Addr) (fd : FuncData) (ps : List Str) (sp : SpX) : Prop where
  len : ∀ vs H E, sp vs H E → vs.length = ps.length
  run : ∀ (A : Around) (outer : List Env) (s : Shared) (H : Hp) (args : Args) (us : List Value) (vs : List V) (E : XK), Room k A → Env0 P w K mg base A outer s H → BindsTo s fd args (ps.zip us) → Vals vs us → sp vs H E →
    codeAny (model P w) A (.call (.ref f) args) (fun r s' => match r with | .ok (.ret u) => RMade P w k outer H s E u s' | _ => False) s
theorem gra_of {P : Program} {w : World} {K : PySem.W.Frag} {mg : Str → Option Value} {base : Heap} {k : Nat} {f : Addr} {name qual : Str} {params : Arguments} {st : Stmt} {rest : List Stmt} {scope : Scope} {dV kV doc pm cdv ct oc : Value} {an od : Option Addr}
    {osl : Array (Option Value)} {N ps : List Str} {sp : SpX} (lk : K.lookup f = some ⟨oc, od, .func (PySem.W.fnOf name qual params (st :: rest) scope dV kV doc pm an cdv ct), osl⟩) (hcd : PySem.W.codeIn K cdv qual = true) (S : GScope N ps scope)
    (len : ∀ vs H E, sp vs H E → vs.length = ps.length)
    (hbody : ∀ (A : Around) (outer : List Env) (s : Shared) (H : Hp) (vs : List V) (E : XK) (pn : List (Addr × Obj)), Room k (A.deeper (envOfC qual scope s.heap.objs.size f cdv)) → sp vs H E →
      ∃ t, PS (gcxOf P w K mg base N qual scope f cdv A outer s H E pn) st t ∧ t { nx := fun _ _ => False, rt := fun _ _ => False } (start N vs) H) :
    GRa P w K mg base (k + 1) f (PySem.W.fnOf name qual params (st :: rest) scope dV kV doc pm an cdv ct) ps sp := by
  refine ⟨len, fun A outer s H args us vs E hr e0 hb r hsp => ?_⟩
  have hl := len _ _ _ hsp
  have KX : K.In s.heap := e0.mod.kin.keeps fun b o e => (e0.bs b o e).1
  have lim : s.heap.NoLimit := e0.mod.nolimit.keeps fun b o e => (e0.bs b o e).1
  have hkind : ∀ y ∈ ps.zip us, scope.names.lookup y.1 = some .local ∨ (scope.names.lookup y.1 = some .cell ∧ ((cellsFrom (s.heap.objs.size + 1) scope.names []).lookup y.1).isSome = true) := fun ⟨n, v⟩ hy =>
    (S.par n (List.of_mem_zip hy).1).imp id fun q => ⟨q, PySem.W.cellsFrom_some _ _ _ (.inl q)⟩
  refine codeAny_call_generator hr.depth (KX _ _ lk) rfl S.co S.gen rfl (PySem.W.codeRec_of KX hcd) (hb _ _ _ _ ?_)
  refine wpAny_newFunctionEnv_cells S.kind hkind fun env he s1 x => ?_
  subst he
  have lim1 : s1.heap.NoLimit := lim.keeps x.toInCall.keep
  refine ⟨lim1, ?_⟩
  obtain ⟨h1, tk, es1, hk1⟩ := x.done
  have gen1 : s1.gens = s.gens := by rw [es1]
  have os1 : s1.os = s.os := by rw [es1]
  have lt1 : s.heap.objs.size < s1.heap.objs.size := x.toInCall.ns.lt
  have I1 := inv_startG (P := P) (w := w) (K := K) (mg := mg) (base := base) (E := E) (f := f) (cd := cdv) S hr.hd e0 hl r x
  have main : ∀ (go : Obj) (nm qn : Value) (tk2 : Nat), go.cls = .type "generator" → go.data = .fields #[.int s1.gens.size 0, nm, qn] → go.slots = #[] → (∀ h : Heap, (h.push go).get? h.objs.size = some go) →
      RMade P w (k + 1) outer H s E (.ref s1.heap.objs.size) { s1 with gens := s1.gens.push (.fresh (.func (st :: rest) (envOfC qual scope s.heap.objs.size f cdv))), toks := tk2, heap := s1.heap.push go } := by
    intro go nm qn tk2 hgc hgd0 hgs hgp
    have hgen : ∀ h : Heap, h.get? s1.heap.objs.size = some go → h.IsGen s1.heap.objs.size s1.gens.size := fun h e => ⟨go, nm, qn, e, hgc, hgd0, hgs⟩
    refine ⟨s1.heap.objs.size, s1.gens.size, _, rfl, Nat.le_of_lt lt1, ?_, hgen _ (hgp _), Array.getElem?_push_size .., os1, AllBare.push (by rw [gen1]; exact e0.bare) rfl, lim1.keeps fun b o e => Heap.get?_push_of_some _ e, fun b o e => Heap.get?_push_of_some _ (x.toInCall.keep b o e), ?_⟩
    · show _ < (s1.heap.push _).objs.size
      rw [Heap.size_push]; exact Nat.lt_succ_self _
    intro Aw Sx oS Y n s2 hrw hfr hSx hk2 hSo hcS hos hba
    have hSz : s1.heap.objs.size < Sx := by
      have hSx' : (s1.heap.push go).objs.size ≤ Sx := hSx
      rw [Heap.size_push] at hSx'
      exact hSx'
    have e0w : Env0 P w K mg base Aw outer s H := ⟨hfr, e0.mod, e0.bs, e0.bsz, e0.funs, e0.frf, e0.hok, e0.bare⟩
    have I1 : Inv (gcxOf P w K mg base N qual scope f cdv Aw outer s H E []) [] (start N vs) H s1 := inv_startG S hrw.hd e0w hl r x
    have kp2 : ∀ b o, s1.heap.get? b = some o → s2.heap.get? b = some o := fun b o e => hk2 b o (Heap.get?_push_of_some _ e)
    have I2 : Inv (gcxOf P w K mg base N qual scope f cdv Aw outer s H E []) [] (start N vs) H s2 :=
      I1.call' (ch := []) (hos.trans os1.symm) (Un.kept kp2) (I1.hok.kept kp2) hba fun b z => by simp at z
    have young : ∀ b, s1.heap.objs.size ≤ b → H b = none ∧ b ≠ s.heap.objs.size ∧ b ∉ frs outer := fun b hb =>
      ⟨I1.hok.fresh hb, Nat.ne_of_gt (Nat.lt_of_lt_of_le lt1 hb), I1.nofs hb⟩
    have J : Inv (gcxOf P w K mg base N qual scope f cdv Aw outer s H E [(s1.heap.objs.size, go), (Sx, oS)]) [] (start N vs) H s2 := Inv.pinnedG I2 fun p hp => by
      simp only [List.append_nil, List.mem_cons, List.not_mem_nil, or_false] at hp
      rcases hp with rfl | rfl
      · obtain ⟨y1, y2, y3⟩ := young s1.heap.objs.size (Nat.le_refl _)
        exact ⟨hk2 _ go (hgp _), y1, y2, y3, fun v q => by rw [hgd0] at q; cases q⟩
      · obtain ⟨y1, y2, y3⟩ := young Sx (Nat.le_of_lt hSz)
        exact ⟨hSo, y1, y2, y3, hcS⟩
    obtain ⟨t, ht, hq⟩ := hbody Aw outer s H vs E [(s1.heap.objs.size, go), (Sx, oS)] (hrw.deeper _) hsp
    refine seg_func (seg_execs_cons (seg_wrap ?_))
    rw [over_func]
    refine wpAny_mono (ht.run [] s2 _ H _ J hq) (fun fl s' hs => ?_) fun e s' hx => ?_
    · cases fl with
      | next => obtain ⟨_, _, _, q⟩ := hs; exact False.elim q
      | brk => obtain ⟨_, _, _, q⟩ := hs; exact False.elim q
      | cont => obtain ⟨_, _, _, q⟩ := hs; exact False.elim q
      | ret u => obtain ⟨_, _, _, _, _, q⟩ := hs; exact False.elim q
    · refine seg_wrap ?_
      rw [over_func]
      refine wpAny_mono (show wpAny (model P w) (Aw.deeper (envOfC qual scope s.heap.objs.size f cdv)) (leaving (envOfC qual scope s.heap.objs.size f cdv) e) (fun _ s'' => CX P w outer H s E e s'' ∧ ∀ p ∈ [(s1.heap.objs.size, go), (Sx, oS)], s''.heap.get? p.1 = some p.2) (fun _ _ => False) s' from hx) (fun _ s'' q => ?_) fun _ s'' q => q.elim
      exact seg_end (.error e) ⟨e, rfl, q.1, hgen _ (q.2 _ List.mem_cons_self), q.2 _ (List.mem_cons_of_mem _ List.mem_cons_self)⟩
  exact main _ _ _ _ rfl rfl rfl fun h => Heap.get?_push_size _ rfl
end GLr
set_option Elab.async false
set_option linter.all false
set_option maxRecDepth 100000
set_option maxHeartbeats 4000000
namespace GLr
open PySem PySem.Spec PyProof.Rows L2 GenW
section
variable {M : Model} {A : Around} {E : Value → Shared → Prop} {s : Shared} {env : Env}
theorem note_eq {e : Value} {env env' : Env} (h : env.frame = env'.frame) : noteFrame e env = noteFrame e env' := by
  unfold noteFrame PySem.frameOf
  rw [h]
theorem letGo_none {cenv : Env} {cellsOf : List (Str × NameKind) → List Value} {Q : Unit → Shared → Prop} (hn : s.heap.Ns cenv.locals fun _ => none) (h : Q () s) : ∀ vs : List (Str × NameKind), wpAny M A (comprehension.letGo cenv cellsOf vs) Q E s := by
  intro vs
  induction vs with
  | nil => exact wpAny_pure h
  | cons x r ih =>
    obtain ⟨n, k⟩ := x
    rw [comprehension.letGo]
    refine wpAny_bind (wpAny_holding ?_)
    by_cases hk : k = .local
    · subst hk
      simp only [beq_self_eq_true, if_true]
      refine wpAny_bind (wpAny_nsGet hn ?_)
      exact wpAny_pure ih
    · have hb : (k == NameKind.local) = false := by simpa using hk
      simp only [hb, Bool.false_eq_true, if_false]
      exact wpAny_point ih
theorem wpAny_comp_err {e : Expr} {scope : Scope} {pos : Pos} {newAcc first : Sem Value} {g : Comprehension} {gs : List Comprehension} {cl : List (Str × Addr)} {Q : Value → Shared → Prop}
    (hcl : clausesOf e = g :: gs) (hs : ∀ x, foldedSetIterable g.iter env x = pure x) (hclos : closureFor scope env = pure cl)
    (h : wpAny M A first (fun x s₁ => wpAny M A (pyIter x) (fun it s₂ => wpAny M A newAcc (fun acc s₃ =>
      wpAny M A (newFunctionEnv scope env.globals cl [] env.qual none .none (some env)) (fun cenv s₄ =>
        codeAny M A (.compStart e 0 it acc { cenv with scope := relabel scope env }) (fun r s' => ∃ x, r = .error x ∧ s'.heap.Ns cenv.locals (fun _ => none) ∧ wpAny M A (passOn "comprehension.variables-let-go" x { cenv with scope := relabel scope env } : Sem Value) (fun _ _ => False) E s') s₄) E s₃) E s₂) E s₁) E s) :
    wpAny M A (comprehension e scope env pos newAcc false first none) Q E s := by
  unfold comprehension
  rw [hclos, hcl]
  refine wpAny_bind (wpAny_mono h (fun x s₁ h₁ => wpAny_bind (wpAny_standAt (wpAny_bind (wpAny_of_eq (hs x) (wpAny_bind (wpAny_holding (wpAny_mono h₁ (fun it s₂ h₂ =>
    wpAny_standIf (wpAny_bind (wpAny_mono h₂ (fun acc s₃ h₃ => wpAny_bind (wpAny_pure (wpAny_bind (wpAny_mono h₃ (fun cenv s₄ h₄ => ?_) fun _ _ h' => h')))) fun _ _ h' => h')))
      fun _ _ h' => h'))))))) fun _ _ h' => h')
  dsimp only
  refine wpAny_holding (wpAny_bind (wpAny_attempt (wpAny_holding (wpAny_run (codeAny_mono h₄ fun r s' hr => ?_)))))
  obtain ⟨x, rfl, hn, hr⟩ := hr
  exact wpAny_bind (wpAny_holding (letGo_none (cenv := { cenv with scope := relabel scope env }) hn (wpAny_mono hr (fun _ _ f => f.elim) fun _ _ y => y) _))
theorem sky_note {B : Heap} {outer : List Env} {L a : Addr} {Z : Obj → Prop} {Q : Unit → Shared → Prop} (hZ : HandSPX.Steady Z) (hfr : A.frames = some (env :: outer)) (hf : env.frame = some L)
    (x : Sky B (env :: outer) a Z L s.heap) (hQ : ∀ h', HandSPX.HeldZ B (env :: outer) a Z L h' → s.heap.UpToSlots h' → Q () { s with heap := h' }) : wpAny M A (noteFrame (.ref a) env) Q E s := by
  rcases x with ⟨hB, hn, hl, oe, vs, he, hz, hd, h1⟩ | fl | hh
  · exact HandSPX.look_newZ hZ hfr hl hf he hB hn hd h1 hz hQ
  · exact HandSPX.looks_onZ hZ hfr hf fl hQ
  · exact HandSPX.againZ hf hh.2.2.2 (hQ s.heap hh (Heap.UpToSlots.refl _))
end
structure PRa (X : Cx) (k : Nat) (e : Expr) (tg : L2.St → Hp → (XK → Prop) → Prop) : Prop where
  run : ∀ (pins : List (Addr × Obj)) (s : Shared) (σ : L2.St) (H : Hp) (R : XK → Prop), Inv X pins σ H s → tg σ H R → wpAny (model X.prog X.w) X.A (eval e X.env)
    (fun u s' => ∃ H1 sc E, Inv X pins σ H1 sc ∧ RMade X.prog X.w k X.stack H1 sc E u s' ∧ R E) X.xe s
theorem pe_lcR {X : Cx} {k : Nat} {elt tg iter : Expr} {ifs : List Expr} {scope : Scope} {own : List (Str × Nat)} {pos : Pos} {tgn : L2.St → Hp → (XK → Prop) → Prop} (hs : X.stack = X.env :: X.outer) (hf : X.env.frame = some X.env.locals) (hr : Room (k + 1) X.A)
    (ok : BlkOk X.N X.env.scope scope own) (hi : PRa X k iter tgn) (hfold : ∀ x, foldedSetIterable iter X.env x = pure x := by intro _; rfl) :
    PE X (.ListComp elt [⟨tg, iter, ifs, 0⟩] scope pos) (fun σ H _ => tgn σ H fun E => ∃ W : WX, Takes X W ∧ (∀ cls d σ H, E cls d H → W cls d σ H) ∧ NoStop X.K E) := by
  refine ⟨fun pins s σ H Q I h => ?_⟩
  rw [eval_ListComp]
  have hfree : ∀ y ∈ scope.names, y.2 = .free → ∃ c, X.env.cells.lookup y.1 = some c := fun y hy e => (ok.free y hy e).elim (fun q => I.ok.has _ (.inl q)) fun q => I.ok.has _ (.inr q)
  refine wpAny_comp_err rfl hfold (closure_ok hfree) (thn (hi.run pins s σ H _ I h) fun u s1 h1 => ?_)
  obtain ⟨H1, sc, E, I1, ⟨a, g, c, rfl, a1, a2, hg, hgs, os1, hb, lim, kp, wake⟩, W, tk, hW, hns⟩ := h1
  refine wpAny_pyIter_gen hg (wpAny_newObj_type (newEnv_comp ?_) (by show 0 ≤ sizeLine; decide))
  have hfr : X.A.frames = some (X.env :: X.outer) := by rw [I1.ok.frames, hs]
  generalize hs3 : ({ s1 with heap := s1.heap.push { cls := .type "list", data := .seq ([] : List Value).toArray } } : Shared) = s3
  have h3 : s3.heap = s1.heap.push { cls := .type "list", data := .seq ([] : List Value).toArray } := by rw [← hs3]
  have z3 : s1.heap.objs.size ≤ s3.heap.objs.size := by rw [h3, Heap.size_push]; exact Nat.le_succ _
  generalize hs4 : ({ s3 with heap := pushCells (s3.heap.push { cls := .type "dict", data := .dict #[] }) scope.names } : Shared) = s4
  have k4 : ∀ b o, s1.heap.get? b = some o → s4.heap.get? b = some o := fun b o e => by
    rw [← hs4]
    refine pushCells_keeps _ _ _ _ (Heap.get?_push_of_some _ ?_)
    rw [h3]
    exact Heap.get?_push_of_some _ e
  have hC4 : s4.heap.get? s3.heap.objs.size = some { cls := .type "dict", data := .dict #[] } := by
    rw [← hs4]
    exact pushCells_keeps _ _ _ _ (Heap.get?_push_size _ rfl)
  have g4 : s4.gens = s1.gens := by rw [← hs4, ← hs3]
  have o4 : s4.os = s1.os := by rw [← hs4, ← hs3]
  have ns0 : ∀ {hh : Heap}, (∃ sl, hh.get? s3.heap.objs.size = some { cls := .type "dict", data := .dict #[], slots := sl }) → hh.Ns s3.heap.objs.size fun _ => none := fun {hh} ⟨sl, e⟩ =>
    ⟨_, #[], _, e, rfl, fun x hx => by simp at hx, fun _ => rfl⟩
  have hg4 : s4.heap.IsGen a g := hg.keeps k4
  show codeAny _ _ (.compStart (.ListComp elt [⟨tg, iter, ifs, 0⟩] scope pos) 0 (.ref a) (.ref s1.heap.objs.size) (compEnvC scope (cellsFrom (s3.heap.objs.size + 1) scope.names (cloFrom X.env.cells scope.names [])) s3.heap.objs.size X.env)) (fun r s' => ∃ x, r = .error x ∧ s'.heap.Ns s3.heap.objs.size (fun _ => none) ∧ wpAny (model X.prog X.w) X.A (PySem.passOn "comprehension.variables-let-go" x (compEnvC scope (cellsFrom (s3.heap.objs.size + 1) scope.names (cloFrom X.env.cells scope.names [])) s3.heap.objs.size X.env) : Sem Value) (fun _ _ => False) X.xe s') s4
  generalize hce : compEnvC scope (cellsFrom (s3.heap.objs.size + 1) scope.names (cloFrom X.env.cells scope.names [])) s3.heap.objs.size X.env = ce
  have fce : ce.frame = X.env.frame := by subst hce; rfl
  have loop : codeAny (model X.prog X.w) X.A (.compLoop (.ListComp elt [⟨tg, iter, ifs, 0⟩] scope pos) 0 (.ref a) (.ref s1.heap.objs.size) ce) (fun r s' => ∃ x, r = .error x ∧ s'.heap.Ns s3.heap.objs.size (fun _ => none) ∧ wpAny (model X.prog X.w) X.A (passOn "comprehension.variables-let-go" x ce : Sem Value) (fun _ _ => False) X.xe s') s4 := by
    refine compLoop_any (fun n s' => s' = s4) ?_ 0 rfl
    rintro n s' rfl
    refine next_genG (A := X.A) (n := 0) (g := g) (gs := .fresh c) (F := fun _ _ _ => False) (Y := fun _ _ _ _ _ => False)
      (Er := fun e s5 => CX X.prog X.w X.stack H1 sc E e s5 ∧ s5.heap.IsGen a g ∧ s5.heap.get? s3.heap.objs.size = some { cls := .type "dict", data := .dict #[] }) hr.hd (lim.keeps k4) hr.depth hg4 (by rw [g4]; exact hgs) ⟨rfl, ?_⟩ (fun v s5 gs' _ hv => hv.elim) (fun s5 hp => hp.elim) fun e s5 he => ?_
    · refine seg_imp (R := fun _ _ r s1 => ∃ e, r = .error e ∧ CX X.prog X.w X.stack H1 sc E e s1 ∧ s1.heap.IsGen a g ∧ s1.heap.get? s3.heap.objs.size = some { cls := .type "dict", data := .dict #[] }) (fun _ _ r s1 hR => .inr hR) (fun _ _ _ _ _ _ _ q => q) 0 ?_
      exact wake X.A.in1 s3.heap.objs.size _ _ 0 (s'.setGen g .running) hr.in1 (by rw [show X.A.in1.frames = X.A.frames from rfl]; exact I1.ok.frames) z3 k4 hC4 (fun v q => by cases q) (o4.trans os1) (allBare_setGen (s := s') (by rw [g4]; exact hb) rfl)
    · obtain ⟨hc, hg5, hC5⟩ := he
      have kin : X.K.In s5.heap := by
        obtain ⟨a, B, H', cls, d, _, fl, _, ub, _⟩ := id hc
        refine I1.ok.mod.kin.keeps fun b o eb => fl.1 b o (ub.keep b o (I1.bs b o eb).1 (I1.bs b o eb).2 fun hm => ?_)
        rcases List.mem_cons.mp (I1.stkSub b hm) with z | z
        · have h1 := Heap.lt_size eb
          have h2 := Nat.le_trans I1.ok.bsz I1.ok.above
          rw [z] at h1
          exact absurd (Nat.lt_of_lt_of_le h1 h2) (Nat.lt_irrefl _)
        · exact I1.ok.nofr eb z
      refine ⟨hg5, notStop_of hns kin hc, ?_⟩
      have hc' : CX X.prog X.w X.stack H1 sc E e (s5.setGen g .finished) := by
        obtain ⟨a, B, H', cls, d, z1, fl, z2, ub, z3, z4, z5, z6⟩ := hc
        exact ⟨a, B, H', cls, d, z1, fl, z2, ub, z3, z4, allBare_setGen z5 rfl, z6⟩
      obtain ⟨x, B, sI, pins', σ', H', cls, d, rfl, J, nb, up, sky, na, os, ag, w⟩ := XE.of_call I1 (W := W) (fun cls d H' q => hW cls d σ H' q) hc'
      rw [hs] at sky
      show wpAny (model X.prog X.w) X.A (noteFrame (.ref x) ce) _ _ _
      rw [note_eq fce]
      refine sky_note Zc.steady hfr hf sky fun h6 hh6 up6 => ?_
      obtain ⟨sl, hC6⟩ := up6 _ _ hC5 fun vs q => by cases q
      refine ⟨_, rfl, ns0 ⟨sl, hC6⟩, ?_⟩
      obtain ⟨f1, f2, f3, f4⟩ := hh6
      obtain ⟨oe, vs, T, oT, ts, he, hz, hd, h1, _⟩ := id f4
      unfold PySem.passOn
      refine wpAny_bind (wpAny_field he hd h1 ?_)
      rw [if_neg (show ¬ ((Value.ref T == Value.none) = true) from by simp)]
      have fin : wpAny (model X.prog X.w) X.A (setFlight (.ref x) ce.frame) (fun _ s7 => wpAny (model X.prog X.w) X.A (throw (.ref x) : Sem Value) (fun _ _ => False) X.xe s7) X.xe { s5.setGen g .finished with heap := h6 } := by
        rw [fce, hf]
        refine HandSPX.setFlight_anyZ f1 f3 f4 fun h7 k1 k2 k3 up7 => wpAny_throw (tk _ _ ?_)
        exact ⟨x, B, sI, pins', σ', H', cls, d, rfl, J, nb, (up.trans up6).trans up7, .inr (.inr (by rw [hs]; exact ⟨k1, f2, k2, k3⟩)), na, os, ag, w⟩
      first
        | exact wpAny_bind (wpAny_pure (wpAny_bind fin))
        | exact wpAny_bind fin
  have lce : ce.locals = s3.heap.objs.size := by subst hce; rfl
  exact codeAny_compStart_list loop (wpAny_pyIter_gen hg4 loop)
end GLr
namespace PV
open PySem PySem.Spec PyProof.Rows L2 ZL GLr
def spXv (K : PySem.W.Frag) (F : Fn) : SpX := fun vs H E => ∃ ds S G, Sm K G S H ∧ Rps K G ds vs ∧ match F ds S with
  | .ex c fs S' => ∀ cls dd H', wEx K G H c fs S' cls dd H' → E cls dd H'
  | _ => False
theorem spXv_spF {K : PySem.W.Frag} {F : Fn} {vs : List V} {H : Hp} {E : XK} (h : spXv K F vs H E) : spF K F vs H (fun _ _ => False) E := by
  obtain ⟨ds, S, G, sm, r, h⟩ := h
  refine ⟨ds, S, G, sm, r, ?_⟩
  split at h
  · rename_i e
    rw [e]
    exact h
  · exact h.elim
structure GrF (P : Program) (w : World) (K : PySem.W.Frag) (mg : Str → Option Value) (base : Heap) (k : Nat) (f : Addr) (F : Fn) : Prop where
  at_ : ∃ fd ps, GRa P w K mg base k f fd ps (spXv K F) ∧ Binds K fd ps []
theorem okGr {P : Program} {w : World} {K : PySem.W.Frag} {mg : Str → Option Value} {base : Heap} {x qual : Str} {st st1 : Stmt} {rest : List Stmt} {kws : List (Str × V)} {f : Addr} {fd : FuncData} {N ps : List Str} {j : Nat} {b : MS} {np n : Nat}
    (F : FunD K x qual (defArgs st) (defBody st) (defScope st) [] kws f fd) (S : GScope N ps (defScope st)) (hn : ps.length = np) (hN : N.length = n)
    (hb : ∀ (kV doc pm : Value) (an : Option Addr) (cdv ct : Value) (us : List Value), us.length = ps.length → bindArgs (PySem.W.fnOf x qual (defArgs st) (defBody st) (defScope st) .none kV doc pm an cdv ct) ⟨us, []⟩ = pure (ps.zip us))
    (hs : defBody st = st1 :: rest)
    (hbody : ∀ (cdv : Value) (A : Around) (outer : List Env) (s : Shared) (H : Hp) (E : XK) (pn : List (Addr × Obj)), Room j (A.deeper (envOfC qual (defScope st) s.heap.objs.size f cdv)) →
      QS (gcxOf P w K mg base N qual (defScope st) f cdv A outer s H E pn) st1 b) : GrF P w K mg base (j + 1) f (dfn np n (sSeq b sNil)) := by
  have FF := F
  obtain ⟨oc, od, dV, kV, doc, pm, an, cdv, ct, osl, rfl, lk, hcd, _, _⟩ := F.ex
  have lk' := lk
  rw [hs] at lk'
  refine ⟨_, ps, ?_, FF.bindsN hb⟩
  rw [hs]
  refine gra_of lk' hcd S (fun vs H E z => spF_len (K := K) hn vs H _ E (spXv_spF z)) fun A outer s H vs E pn hr hsp => ?_
  refine ⟨_, hbody cdv A outer s H E pn hr, ?_⟩
  have h := body_start (X := gcxOf P w K mg base N qual (defScope st) f cdv A outer s H E pn) rfl takes_gcx hn hN (spXv_spF hsp)
  obtain ⟨ρ, S0, G, sm, re, h⟩ := h
  refine ⟨ρ, S0, G, sm, re, ?_⟩
  have h' : satS (gcxOf P w K mg base N qual (defScope st) f cdv A outer s H E pn) G H ((b ρ S0).bind fun (f : Fl) (S1 : Sto) => (match f with
    | .nx ρ' => .ok (.nx ρ') S1
    | f => .ok f S1 : Out Fl)) { nx := fun _ H' => False, rt := fun _ _ => False } := h
  match e : b ρ S0, h' with
  | .ok (.nx ρ') S1, h' => exact h'
  | .ok (.rt d) S1, h' => exact h'
  | .ok (.bk ρ') S1, h' => exact h'
  | .ok (.ct ρ') S1, h' => exact h'
  | .ex _ _ _, h' => exact h'
  | .no, h' => exact h'
def lcR (c cx : String) (F : Fn) (mth : String) (o : ME) (ms : MA) : ME := fun ρ S => (o ρ S).bind fun d S1 => match insOf S1 d with
  | some (c', fs) => if c' = c ∧ fs.lookup mth = none then (ms ρ S1).bind fun ds S2 => (match F (d :: ds) S2 with
    | .ex c2 fs2 S3 => if c2 = cx then .ex c2 fs2 S3 else .no
    | _ => .no) else .no
  | none => .no
section
variable {X : Cx} {j : Nat} {c cx mth : String} {f : Addr} {F : Fn} {o e : Expr} {es : List Expr} {mo : ME} {ms : MA} {apos pos pos' : Pos} {pl : Sem Bool}
theorem pra_meth (hc : Cls X.K (gaS X.K c)) (hm : Meth X.K (gaS X.K c) (Str.ofString mth) f) (Ff : GrF X.prog X.w X.K X.mg X.base j f F) (hr : Room j X.A) (ho : QE X o mo) (ha : QA X (e :: es) ms)
    (hst : starEach (e :: es) X.env = (false, eval e X.env) :: starEach es X.env := by rfl) (hpl : (backTo pos' (starEach es X.env)).any (·.1) = false := by rfl)
    (ht : eval (.Call (.Attribute o (Str.ofString mth) apos) (e :: es) [] pos') X.env = (do
      let ov ← eval o X.env
      standAt apos.atName
      let (f, first) ← holding [ov] (getMethod ov (Str.ofString mth) pl)
      callWith pos' f first (backTo pos' (starEach (e :: es) X.env)) (backToKw pos' (keywordEach [] X.env))) := by rfl) :
    PRa X j (.Call (.Attribute o (Str.ofString mth) apos) (e :: es) [] pos') (fun σ H R => ∃ ρ S G, Sm X.K G S H ∧ Re X.K G ρ σ ∧ ∃ Q : VK, sat X (Rp X.K) G H (lcR c cx F mth mo ms ρ S) Q ∧
      ∀ G2 H2 fs S3, Takes X (fun cls dd _ H' => wEx X.K G2 H2 cx fs S3 cls dd H') → R (wEx X.K G2 H2 cx fs S3)) := by
  refine ⟨fun pins s σ H R I ⟨ρ, S, G, sm, re, Q, h, hR⟩ => ?_⟩
  unfold lcR at h
  refine PySem.W.methodCall_KW (pl := pl) (thn (ho.run pins s σ H _ I ⟨ρ, S, G, sm, re, sat.bind h⟩) fun u s1 k => ?_) ht
  obtain ⟨v, H1, I1, rv, x, S1, G1, le1, sm1, r1, q1⟩ := k
  split at q1
  · rename_i c' fs hi
    split at q1
    · rename_i hl
      obtain ⟨rfl, hl⟩ := hl
      obtain ⟨a, dx, ws, rfl, hA, rf⟩ := sm1.ins hi r1
      obtain rfl : u = Value.ref a := rv
      refine getmeth_ok I1 hA hc hm (rf.gone hl) ?_
      refine PySem.W.callWith_K (first := [.ref a]) (h₀ := X.base) I.ok.mod.kin hm.kp (thn (ha.run pos' pins s1 σ H1 _ I1 ⟨ρ, S1, G1, sm1, re.mono le1.le, sat.bind q1⟩) fun us s2 w => ?_) hst hpl
      obtain ⟨vs, H2, I2, rs, ds, S2, G2, le2, sm2, r2, q2⟩ := w
      split at q2
      · rename_i c2 fs2 S3 e2
        split at q2
        · rename_i hcx
          subst hcx
          obtain ⟨fd, ps, FG, hB⟩ := Ff.at_
          have hsp : spXv X.K F (.ref a :: vs) H2 (wEx X.K G2 H2 c2 fs2 S3) := ⟨x :: ds, S2, G2, sm2, .cons (r1.mono le2.le) r2, by rw [e2]; exact fun _ _ _ z => z⟩
          have hl2 : (Value.ref a :: us).length = ps.length := by
            have q := FG.len _ _ _ hsp
            have q2 := rs.length
            rw [List.length_cons] at q ⊢
            omega
          have hb := hB s2 (.ref a :: us) I2.kIn (by rw [List.append_nil]; exact hl2)
          rw [List.append_nil] at hb
          refine ⟨I2.kIn, wpAny_call (codeAny_mono (FG.run X.A X.stack s2 H2 ⟨.ref a :: us, []⟩ (.ref a :: us) (.ref a :: vs) _ hr I2.env0 hb (.cons rfl rs) hsp) fun r s' hq => ?_)⟩
          cases r with
          | error e => exact False.elim hq
          | ok fl =>
            cases fl with
            | ret u => exact ⟨H2, s2, _, I2, hq, hR G2 H2 fs2 S3 q2⟩
            | next => exact False.elim hq
            | brk => exact False.elim hq
            | cont => exact False.elim hq
        · exact q2.elim
      · exact q2.elim
    · exact q1.elim
  · exact q1.elim
theorem qe_lcR {elt tg : Expr} {ifs : List Expr} {scope : Scope} {own : List (Str × Nat)} {lpos : Pos} (hs : X.stack = X.env :: X.outer) (hf : X.env.frame = some X.env.locals) (hc : Cls X.K (gaS X.K c)) (hm : Meth X.K (gaS X.K c) (Str.ofString mth) f) (Ff : GrF X.prog X.w X.K X.mg X.base j f F) (hr : Room (j + 1) X.A)
    (hsc : PySem.W.subIn X.K (.ref (gaS X.K cx)) (.type "StopIteration") = some false) (ok : BlkOk X.N X.env.scope scope own) (ho : QE X o mo) (ha : QA X (e :: es) ms)
    (hst : starEach (e :: es) X.env = (false, eval e X.env) :: starEach es X.env := by rfl) (hpl : (backTo pos' (starEach es X.env)).any (·.1) = false := by rfl)
    (ht : eval (.Call (.Attribute o (Str.ofString mth) apos) (e :: es) [] pos') X.env = (do
      let ov ← eval o X.env
      standAt apos.atName
      let (f, first) ← holding [ov] (getMethod ov (Str.ofString mth) pl)
      callWith pos' f first (backTo pos' (starEach (e :: es) X.env)) (backToKw pos' (keywordEach [] X.env))) := by rfl)
    (hfold : ∀ x, foldedSetIterable (.Call (.Attribute o (Str.ofString mth) apos) (e :: es) [] pos') X.env x = pure x := by intro _; rfl) :
    QE X (.ListComp elt [⟨tg, .Call (.Attribute o (Str.ofString mth) apos) (e :: es) [] pos', ifs, 0⟩] scope lpos) (lcR c cx F mth mo ms) :=
  qe_of (pe_lcR hs hf hr ok (pra_meth (cx := cx) (pl := pl) hc hm Ff (hr.mono (Nat.le_succ j)) ho ha hst hpl ht) hfold) fun ρ S G σ H Q sm re h =>
    ⟨ρ, S, G, sm, re, Q, h, fun G2 H2 fs S3 tk => ⟨_, tk, fun _ _ _ _ z => z, fun cls d H' z => by
      obtain ⟨_, _, _, ex, _⟩ := z
      rw [ex]
      exact hsc⟩⟩
end
end PV
set_option Elab.async false
set_option linter.all false
set_option maxRecDepth 100000
set_option maxHeartbeats 4000000
namespace ZL
open PySem PySem.Spec PyProof.Rows L2
theorem int_fdiv_inst (a : Int) (t : Tok) (l C dx : Addr) : Meets (Builtin.«int.__floordiv__» ⟨[.int a t, .ref l], []⟩) (fun _ R s => s.heap.get? l = some (PySem.W.instObj C dx) ∧ R (.ok (.ret Value.notImplemented)) s) :=
  .of_wp fun prog w A R s h => by obtain ⟨hp, g, d, tk, os⟩ := s; obtain ⟨hq, h⟩ := h; wp_walk; exact ⟨_, rfl, h⟩
theorem bool_fdiv_inst (a : Bool) (l C dx : Addr) : Meets (Builtin.«int.__floordiv__» ⟨[.bool a, .ref l], []⟩) (fun _ R s => s.heap.get? l = some (PySem.W.instObj C dx) ∧ R (.ok (.ret Value.notImplemented)) s) :=
  .of_wp fun prog w A R s h => by obtain ⟨hp, g, d, tk, os⟩ := s; obtain ⟨hq, h⟩ := h; wp_walk; exact ⟨_, rfl, h⟩
theorem bool_mod_inst (a : Bool) (l C dx : Addr) : Meets (Builtin.«int.__mod__» ⟨[.bool a, .ref l], []⟩) (fun _ R s => s.heap.get? l = some (PySem.W.instObj C dx) ∧ R (.ok (.ret Value.notImplemented)) s) :=
  .of_wp fun prog w A R s h => by obtain ⟨hp, g, d, tk, os⟩ := s; obtain ⟨hq, h⟩ := h; wp_walk; exact ⟨_, rfl, h⟩
open PySem.W in
theorem fills_R {K : Frag} {C f : Addr} {M : Model} {h : Heap} {nm : String} {cd : ClassData} {rest : List Value} (X : K.In h) (hc : clsIn K C = some cd) (hm : cd.mro = .ref C :: rest) (h0 : findIn K (.ref C) (PySem.dunder nm) = some none)
    (hs : findIn K (.ref C) (dunderR nm) = some (some (.ref f))) : Looks M h (fillsNumberSlot (.ref C) nm) true := by
  intro A Q E s k q
  unfold fillsNumberSlot
  refine wpAny_bind ((looks_clsIn X hc).andThen (f := fun cd => pure cd.mro) .now A _ E s k ?_)
  rw [hm, List.anyM_cons]
  refine wpAny_bind ?_
  show wpAny M A (List.anyM _ [PySem.dunder nm, dunderR nm]) _ _ _
  rw [List.anyM_cons]
  refine wpAny_bind (wpAny_bind (looks_findIn X h0 A _ E s k ?_))
  refine wpAny_pure ?_
  rw [if_neg Bool.false_ne_true, List.anyM_cons]
  refine wpAny_bind (wpAny_bind (looks_findIn X hs A _ E s k ?_))
  dsimp only
  rw [if_pos (show (!ownNameWrapper (.ref f) (dunderR nm)) = true from rfl)]
  refine wpAny_pure ?_
  rw [if_pos rfl]
  refine wpAny_pure ?_
  rw [if_pos rfl]
  exact wpAny_pure q
end ZL
namespace PV
open PySem PySem.Spec PyProof.Rows L2 ZL
def rbinX (c nm : String) (F : Fn) (g : G2) : G2 := fun x y S => match insOf S y with
  | some (c1, _) => if c1 = c then (match x with
    | .int i => okRes (F [y, .int i] S)
    | .bl b => okRes (F [y, .bl b] S)
    | x => match tyD S x with
      | some (.b T) => if numS T nm = some false then okRes (F [y, x] S) else .no
      | _ => .no) else .no
  | none => g x y S
section
variable {X : Cx} {j : Nat} {c : String} {f : Addr} {F : Fn} {g : G2}
theorem of_rbinX {op : Operator} {id : String} {B : Builtin} (slot : Slot "int" (PySem.dunder op.info.2) id) (entry : entryFor table id = some B) (args : ∀ a b, argsOk id ⟨[a, b], []⟩)
    (ni : ∀ a t l C dx, Meets (B ⟨[.int a t, .ref l], []⟩) (fun _ R s => s.heap.get? l = some (PySem.W.instObj C dx) ∧ R (.ok (.ret .notImplemented)) s)) (fills : fillsNumberSlot (.type "int") op.info.2 = pure true)
    (slotb : Slot "bool" (PySem.dunder op.info.2) id) (nib : ∀ y l C dx, Meets (B ⟨[.bool y, .ref l], []⟩) (fun _ R s => s.heap.get? l = some (PySem.W.instObj C dx) ∧ R (.ok (.ret .notImplemented)) s)) (fillsb : fillsNumberSlot (.type "bool") op.info.2 = pure true)
    (pl : Plain X.K (gaS X.K c)) (h0 : PySem.W.findIn X.K (.ref (gaS X.K c)) (PySem.dunder op.info.2) = some none) (o : Own X.K (gaS X.K c) (dunderR op.info.2) f)
    (hsub : PySem.W.subIn X.K (.ref (gaS X.K c)) (.type "int") = some false) (hsubb : PySem.W.subIn X.K (.ref (gaS X.K c)) (.type "bool") = some false)
    (Ff : FnF X.prog X.w X.K X.mg X.base j f F) (hr : Room j X.A) (hg : OpF X (binaryOp op) g) : OpF X (binaryOp op) (rbinX c op.info.2 F g) := fun pins s σ H v w u u' Q I rv rw' ⟨x, y, S, G, sm, rx, ry, h⟩ => by
  unfold rbinX at h
  split at h
  · rename_i c1 fs hi
    split at h
    · rename_i hc
      subst hc
      obtain ⟨b, dy, ws, rfl, hB, rf⟩ := sm.ins hi ry
      obtain ⟨cd, hcd, hm⟩ := pl
      have fl : ∀ h, X.K.In h → PySem.W.Looks (model X.prog X.w) h (fillsNumberSlot (.ref (gaS X.K c1)) op.info.2) true := fun h k => fills_R k hcd hm h0 o.at_
      split at h
      · cases rx
        exact op_rbinI (op := op) slot entry args ni fills fl o hsub Ff hr passE pins s σ H _ _ u u' Q I rv rw' ⟨_, b, dy, ws, rfl, rfl, hB, [y, .int _], S, G, sm, .cons ry (.cons (.int _) .nil), spO_ok h⟩
      · rename_i bb
        cases rx
        obtain rfl : u' = Value.ref b := rw'
        obtain rfl : u = Value.bool bb := rv
        obtain ⟨od, J⟩ := inst_at I hB
        have q : spF X.K F [.ref b, .bl bb] H (fun v H' => (∃ r, v = .ref r) ∧ Q v H') (Est X) := ⟨[y, .bl bb], S, G, sm, .cons ry (.cons (.bl bb) .nil), spO_okRes h⟩
        exact after1 (rbinT slotb entry (args _ _) (nib bb b _ dy) fillsb I.kIn J J.at_ (fl _ I.kIn) o.at_ o.fn hsubb (thn (run_at (vs := [.ref b, .bl bb]) Ff hr rfl passE I (.cons rfl (.cons rfl .nil)) q) fun u2 s' z => cmpBack_ref z))
      · split at h
        · rename_i T ht
          split at h
          · rename_i hT
            obtain rfl : u' = Value.ref b := rw'
            obtain ⟨od, J⟩ := inst_at I hB
            have hu := looksTy I sm rx rv ht
            have q : spF X.K F [.ref b, v] H (fun v H' => (∃ r, v = .ref r) ∧ Q v H') (Est X) := ⟨[y, x], S, G, sm, .cons ry (.cons rx .nil), spO_okRes h⟩
            exact after1 (rbinL I.kIn J hu hT (fl _ I.kIn) o.at_ o.fn (thn (run_at (vs := [.ref b, v]) Ff hr rfl passE I (.cons rfl (.cons rv .nil)) q) fun u2 s' z => cmpBack_ref z))
          · exact h.elim
        · exact h.elim
    · exact h.elim
  · exact hg pins s σ H v w u u' Q I rv rw' ⟨x, y, S, G, sm, rx, ry, h⟩
theorem of_rdivX (pl : Plain X.K (gaS X.K c)) (h0 : PySem.W.findIn X.K (.ref (gaS X.K c)) "__floordiv__" = some none) (o : Own X.K (gaS X.K c) "__rfloordiv__" f)
    (hsub : PySem.W.subIn X.K (.ref (gaS X.K c)) (.type "int") = some false) (hsubb : PySem.W.subIn X.K (.ref (gaS X.K c)) (.type "bool") = some false)
    (Ff : FnF X.prog X.w X.K X.mg X.base j f F) (hr : Room j X.A) (hg : OpF X (binaryOp .FloorDiv) g) : OpF X (binaryOp .FloorDiv) (rbinX c "floordiv" F g) :=
  of_rbinX (op := .FloorDiv) PySem.F.slot_int_floordiv PySem.F.entry_int_floordiv (fun a b => PySem.F.args_int_floordiv_2 a b) int_fdiv_inst PySem.F.fills_int_floordiv PySem.F.slot_bool_floordiv bool_fdiv_inst PySem.F.fills_bool_floordiv pl h0 o hsub hsubb Ff hr hg
theorem of_rmodX (pl : Plain X.K (gaS X.K c)) (h0 : PySem.W.findIn X.K (.ref (gaS X.K c)) "__mod__" = some none) (o : Own X.K (gaS X.K c) "__rmod__" f)
    (hsub : PySem.W.subIn X.K (.ref (gaS X.K c)) (.type "int") = some false) (hsubb : PySem.W.subIn X.K (.ref (gaS X.K c)) (.type "bool") = some false)
    (Ff : FnF X.prog X.w X.K X.mg X.base j f F) (hr : Room j X.A) (hg : OpF X (binaryOp .Mod) g) : OpF X (binaryOp .Mod) (rbinX c "mod" F g) :=
  of_rbinX (op := .Mod) PySem.F.slot_int_mod PySem.F.entry_int_mod (fun a b => PySem.F.args_int_mod_2 a b) int_mod_inst PySem.F.fills_int_mod PySem.F.slot_bool_mod bool_mod_inst PySem.F.fills_bool_mod pl h0 o hsub hsubb Ff hr hg
end
end PV
set_option Elab.async false
set_option linter.all false
set_option maxRecDepth 100000
set_option maxHeartbeats 0
namespace K07
open PySem PySem.W L2
def top (i : Nat) : Stmt := PySem.Challenge.pw_lapseeds_k07_laps_refused.main.body.getD i (.Pass ⟨0, 0, 0, 0⟩)
abbrev s_is_whole : Stmt := top 1
abbrev s_is_between : Stmt := top 2
abbrev s_LapD_initD : Stmt := inClass (top 11) 0
abbrev s_law_bag : Stmt := top 13
abbrev s_law_draw : Stmt := top 14
abbrev s_law_pick : Stmt := top 15
abbrev s_law_heard : Stmt := top 16
abbrev s_law_three : Stmt := top 17
abbrev s_law_pits_right : Stmt := top 18
abbrev s_need_seeds : Stmt := top 10
abbrev s_Lap_laid : Stmt := inClass (top 11) 1
abbrev s_Lap_each : Stmt := inClass (top 11) 2
abbrev s_Lap_last : Stmt := inClass (top 11) 3
abbrev s_LapD_rfloordivD : Stmt := inClass (top 11) 4
abbrev s_LapD_rmodD : Stmt := inClass (top 11) 5
abbrev s_LapD_getitemD : Stmt := inClass (top 11) 9
abbrev s_LapD_eqD : Stmt := inClass (top 11) 10
abbrev s_law_seeds_right : Stmt := top 19
abbrev s_law : Stmt := top 20
abbrev s_BadNumberD_initD : Stmt := inClass (top 6) 0
abbrev s_BadPitD_initD : Stmt := inClass (top 5) 0
def gD (x : Str) (st : Stmt) : He5.DefA := ⟨fun K => He.ga K x, x, x, defArgs st, defBody st, defScope st, [], []⟩
def mD (c m q : Str) (st : Stmt) : He5.DefA := ⟨fun K => He.ma K (He.ga K c) m, m, q, defArgs st, defBody st, defScope st, [], []⟩
abbrev mO (K : Frag) (c m : Str) : Addr := He.ma K (He.ga K c) m
abbrev uO (K : Frag) (c m : Str) : Addr := He5.wf K (He.ga K c) "staticmethod" m
abbrev wO (K : Frag) (c m : Str) : Addr := He5.wf K (He.ga K c) "classmethod" m
def fn : List He5.DefA := [gD "is_whole" s_is_whole, gD "is_between" s_is_between, mD "Lap" "__init__" "Lap.__init__" s_LapD_initD, gD "_law_bag" s_law_bag, gD "_law_draw" s_law_draw, gD "_law_pick" s_law_pick, gD "_law_heard" s_law_heard, gD "_law_three" s_law_three, gD "_law_pits_right" s_law_pits_right, gD "need_seeds" s_need_seeds, mD "Lap" "laid" "Lap.laid" s_Lap_laid, mD "Lap" "each" "Lap.each" s_Lap_each, mD "Lap" "last" "Lap.last" s_Lap_last, mD "Lap" "__rfloordiv__" "Lap.__rfloordiv__" s_LapD_rfloordivD, mD "Lap" "__rmod__" "Lap.__rmod__" s_LapD_rmodD, mD "Lap" "__getitem__" "Lap.__getitem__" s_LapD_getitemD, mD "Lap" "__eq__" "Lap.__eq__" s_LapD_eqD, gD "_law_seeds_right" s_law_seeds_right, gD "law" s_law, mD "BadNumber" "__init__" "BadNumber.__init__" s_BadNumberD_initD, mD "BadPit" "__init__" "BadPit.__init__" s_BadPitD_initD]
def glos : List Str := ["BadNumber", "BadPit", "Lap", "LapError", "Nothing", "_law_bag", "_law_draw", "_law_heard", "_law_pick", "_law_pits_right", "_law_seeds_right", "_law_three", "is_between", "is_whole", "law", "need_seeds"]
def frees : List Str := ["abs", "bool", "enumerate", "int", "isinstance", "len", "list", "range", "repr", "tuple"]
def meths : List (Str × Str) := [("BadNumber", "__init__"), ("BadPit", "__init__"), ("Lap", "__eq__"), ("Lap", "__getitem__"), ("Lap", "__rfloordiv__"), ("Lap", "__rmod__"), ("Lap", "each"), ("Lap", "laid"), ("Lap", "last")]
def intcs : List (Str × Int) := [("LAST_PIT", 5)]
def strcs : List (Str × Str) := []
def clss : List Str := ["Lap"]
def mkrs : List Str := ["Lap"]
def noats : List (Str × Str) := [("Lap", "pits")]
def cms : List (Str × Str) := []
def sms : List (Str × Str) := []
def crds : List Str := []
def nes : List Str := ["Lap"]
def gis : List (Str × Str) := [("Lap", "__getitem__")]
def selfs : List Str := []
def nofs : List (Str × Str) := [("BadNumber", "value"), ("BadPit", "value"), ("Lap", "__floordiv__"), ("Lap", "__mod__")]
def tys : List (String × Str × String) := []
def subs : List (String × Str) := [("NoneType", "Lap"), ("bool", "Lap"), ("dict", "Lap"), ("int", "Lap"), ("list", "Lap"), ("str", "Lap"), ("tuple", "Lap")]
def pls : List Str := ["Lap"]
def subc : List (Str × String) := [("BadNumber", "StopIteration"), ("Lap", "bool"), ("Lap", "int")]
def onos : List Str := []
def subx : List (Str × Str) := []
def dvs : List (Str × Str × Str) := []
def kits : List (String × Str) := [("NoneType", "BadNumber"), ("NoneType", "BadPit"), ("NoneType", "Lap"), ("NoneType", "Nothing"), ("bool", "BadNumber"), ("bool", "BadPit"), ("bool", "Lap"), ("bool", "Nothing"), ("dict", "BadNumber"), ("dict", "BadPit"), ("dict", "Lap"), ("dict", "Nothing"), ("int", "BadNumber"), ("int", "BadPit"), ("int", "Lap"), ("int", "Nothing"), ("list", "BadNumber"), ("list", "BadPit"), ("list", "Lap"), ("list", "Nothing"), ("str", "BadNumber"), ("str", "BadPit"), ("str", "Lap"), ("str", "Nothing"), ("tuple", "BadNumber"), ("tuple", "BadPit"), ("tuple", "Lap"), ("tuple", "Nothing")]
def kitcs : List (Str × String) := [("Lap", "bool"), ("Lap", "int")]
def kitos : List (Str × Str × Bool) := [("BadNumber", "BadNumber", true), ("BadNumber", "BadPit", false), ("BadNumber", "Nothing", false), ("BadPit", "BadNumber", false), ("BadPit", "BadPit", true), ("BadPit", "Nothing", false), ("Lap", "BadNumber", false), ("Lap", "BadPit", false), ("Lap", "Lap", true), ("Lap", "Nothing", false), ("Nothing", "BadNumber", false), ("Nothing", "BadPit", false), ("Nothing", "Nothing", true)]
def ccs : List (Str × Str × Int) := []
def xcs : List Str := ["BadNumber", "BadPit", "Nothing"]
def xis : List Str := ["BadNumber", "BadPit"]
def xns : List Str := ["Nothing"]
def xms : List (Str × Str) := [("BadNumber", "LapError"), ("BadPit", "LapError"), ("Nothing", "LapError")]
def kvs : List Str := []
def lams : List Str := ["_law_pits_right", "_law_seeds_right", "law"]
def chk (K : Frag) : Bool := ((xcs.all fun c => PV.xcB K (He.ga K c)) && ((xis.all fun c => PV.oexB K (He.ga K c)) && ((xns.all fun c => excIn K (He.ga K c) PySem.HandSPX.veTail "ValueError.__new__") && ((xms.all fun p => decide (exmOne K (.ref (He.ga K p.1)) (.ref (He.ga K p.2)) = some true)) && ((kvs.all fun c => decide (kitOne K (.ref (He.ga K c)) (.type "ValueError") = some true)) && ((dvs.all fun p => (match nsIn K (He.ga K p.1) p.2.1 with | some (some (.str y _)) => decide (y = p.2.2) | _ => false)) && ((glos.all fun x => (He.Fa.glo x).ok K) && ((frees.all fun x => (He.Fa.free x).ok K) && ((meths.all fun p => (He.Fa.meth p.1 p.2).ok K) && ((intcs.all fun p => (He.Fa.int p.1 p.2).ok K) && ((strcs.all fun p => (He.Fa.str p.1 p.2).ok K) && ((clss.all fun c => (He.Fa.cls c).ok K) && ((mkrs.all fun c => (He.Fa.mkr c).ok K) && ((noats.all fun p => (He.Fa.noat p.1 p.2).ok K) && ((cms.all fun p => He5.wrapB K (He.ga K p.1) "classmethod" "classmethod.__get__" p.2 && fnIn K (wO K p.1 p.2)) && ((sms.all fun p => He5.wrapB K (He.ga K p.1) "staticmethod" "staticmethod.__get__" p.2 && keepIn K (.ref (uO K p.1 p.2))) && ((crds.all fun c => readsIn K (He.ga K c) (.type "type") && He.eqO (specialIn K (.ref (He.ga K c)) "__getattribute__") (some (some (.builtin "type.__getattribute__")))) && ((nes.all fun c => He.eqO (findIn K (.ref (He.ga K c)) "__ne__") (some (some (.builtin "object.__ne__"))) && decide (mroIn K (He.ga K c) (.type "object") = some true)) && ((gis.all fun p => fnIn K (mO K p.1 p.2)) && ((selfs.all fun c => selfFirst K (He.ga K c)) && ((nofs.all fun p => He.eqO (findIn K (.ref (He.ga K p.1)) p.2) (some none)) && ((tys.all fun p => He.eqO (findIn K (.type p.1) p.2.1) (some (some (.builtin p.2.2)))) && ((subs.all fun p => decide (subIn K (.type p.1) (.ref (He.ga K p.2)) = some false)) && ((pls.all fun c => decide ((clsIn K (He.ga K c)).map (fun cd => cd.mro) = some [.ref (He.ga K c), .type "object"])) && ((subc.all fun p => decide (subIn K (.ref (He.ga K p.1)) (.type p.2) = some false)) && ((onos.all fun m => He.eqO (findIn K (.type "object") m) (some none)) && ((subx.all fun p => decide (subIn K (.ref (He.ga K p.1)) (.ref (He.ga K p.2)) = some false)) && ((kits.all fun p => decide (kitOne K (.type p.1) (.ref (He.ga K p.2)) = some false)) && ((kitcs.all fun p => decide (kitOne K (.ref (He.ga K p.1)) (.type p.2) = some false)) && ((kitos.all fun p => decide (kitOne K (.ref (He.ga K p.1)) (.ref (He.ga K p.2.1)) = some p.2.2)) && ((ccs.all fun p => match findCls K (.ref (He.ga K p.1)) (.type "type") p.2.1 with | some (.val (.int i _)) => decide (i = p.2.2) | _ => false) && ((clss.all fun c => He.eqO (findIn K (.ref (He.ga K c)) "__class__") (some (some (.builtin "object.__class__")))) && ((clss.all fun c => decide (mroIn K (He.ga K c) (.type "object") = some true)) && ((He.eqO (specialIn K (.builtin "object.__class__") "__get__") (some (some (.builtin "getset_descriptor.__get__")))) && (decide (takesIn K (.builtin "object.__class__") = some true))))))))))))))))))))))))))))))))))))
structure TX (K : Frag) (mg : Str → Option Value) : Prop where
  says : ZH.SaysZ chk fn K
  xc : ∀ c ∈ xcs, PV.XC K (He.ga K c)
  xi : ∀ c ∈ xis, PV.oexB K (He.ga K c) = true
  xn : ∀ c ∈ xns, excIn K (He.ga K c) PySem.HandSPX.veTail "ValueError.__new__" = true
  xm : ∀ c d, (c, d) ∈ xms → exmOne K (.ref (He.ga K c)) (.ref (He.ga K d)) = some true
  kv : ∀ c ∈ kvs, kitOne K (.ref (He.ga K c)) (.type "ValueError") = some true
  dv : ∀ x k v, (x, k, v) ∈ dvs → ∃ t, nsIn K (He.ga K x) k = some (some (.str v t))
  glo : ∀ x ∈ glos, mg x = some (.ref (He.ga K x))
  free : ∀ x ∈ frees, mg x = none
  meth : ∀ c m, (c, m) ∈ meths → Meth K (He.ga K c) m (mO K c m)
  intc : ∀ x i, (x, i) ∈ intcs → ∃ t, mg x = some (.int i t)
  strc : ∀ x z, (x, z) ∈ strcs → ∃ t, mg x = some (.str z t)
  cl : ∀ c ∈ clss, Cls K (He.ga K c)
  mkr : ∀ c ∈ mkrs, Mk K (He.ga K c) (mO K c "__init__")
  na : ∀ c f, (c, f) ∈ noats → NoAttr K (He.ga K c) f
  cm : ∀ c m, (c, m) ∈ cms → ClX.CMet K (He.ga K c) (.type "type") m (mO K c m) (wO K c m)
  sm : ∀ c m, (c, m) ∈ sms → PV.SMet K (He.ga K c) (.type "type") m (mO K c m) (uO K c m)
  rd : ∀ c ∈ crds, ClX.CRead K (He.ga K c) (.type "type")
  ne : ∀ c ∈ nes, ZL.OwnNe K (He.ga K c)
  gi : ∀ c m, (c, m) ∈ gis → fnIn K (mO K c m) = true
  sf : ∀ c ∈ selfs, selfFirst K (He.ga K c) = true
  nf : ∀ c m, (c, m) ∈ nofs → findIn K (.ref (He.ga K c)) m = some none
  ty : ∀ T m i, (T, m, i) ∈ tys → findIn K (.type T) m = some (some (.builtin i))
  sb : ∀ T c, (T, c) ∈ subs → subIn K (.type T) (.ref (He.ga K c)) = some false
  pl : ∀ c ∈ pls, ZL.Plain K (He.ga K c)
  sc : ∀ c T, (c, T) ∈ subc → subIn K (.ref (He.ga K c)) (.type T) = some false
  on : ∀ m ∈ onos, findIn K (.type "object") m = some none
  sx : ∀ c d, (c, d) ∈ subx → subIn K (.ref (He.ga K c)) (.ref (He.ga K d)) = some false
  kt : ∀ T c, (T, c) ∈ kits → kitOne K (.type T) (.ref (He.ga K c)) = some false
  kc : ∀ c T, (c, T) ∈ kitcs → kitOne K (.ref (He.ga K c)) (.type T) = some false
  ko : ∀ c d b, (c, d, b) ∈ kitos → kitOne K (.ref (He.ga K c)) (.ref (He.ga K d)) = some b
  cc : ∀ c f i, (c, f, i) ∈ ccs → ∃ u, ClX.CVal K (He.ga K c) (.type "type") f (.int i) u
  ca : ∀ c ∈ clss, findIn K (.ref (He.ga K c)) "__class__" = some (some (.builtin "object.__class__"))
  ob : ∀ c ∈ clss, mroIn K (He.ga K c) (.type "object") = some true
  cg : specialIn K (.builtin "object.__class__") "__get__" = some (some (.builtin "getset_descriptor.__get__"))
  ct : takesIn K (.builtin "object.__class__") = some true
theorem tx {K : Frag} {mg : Str → Option Value} {h : Heap} (X : K.In h) (G : h.Ns mainGlobals mg) (c : ZH.SaysZ chk fn K) : TX K mg := by
  have z := c.fact
  obtain ⟨z0, z⟩ := He.ba z
  obtain ⟨z1, z⟩ := He.ba z
  obtain ⟨z2, z⟩ := He.ba z
  obtain ⟨z3, z⟩ := He.ba z
  obtain ⟨z4, z⟩ := He.ba z
  obtain ⟨z5, z⟩ := He.ba z
  obtain ⟨z6, z⟩ := He.ba z
  obtain ⟨z7, z⟩ := He.ba z
  obtain ⟨z8, z⟩ := He.ba z
  obtain ⟨z9, z⟩ := He.ba z
  obtain ⟨z10, z⟩ := He.ba z
  obtain ⟨z11, z⟩ := He.ba z
  obtain ⟨z12, z⟩ := He.ba z
  obtain ⟨z13, z⟩ := He.ba z
  obtain ⟨z14, z⟩ := He.ba z
  obtain ⟨z15, z⟩ := He.ba z
  obtain ⟨z16, z⟩ := He.ba z
  obtain ⟨z17, z⟩ := He.ba z
  obtain ⟨z18, z⟩ := He.ba z
  obtain ⟨z19, z⟩ := He.ba z
  obtain ⟨z20, z⟩ := He.ba z
  obtain ⟨z21, z⟩ := He.ba z
  obtain ⟨z22, z⟩ := He.ba z
  obtain ⟨z23, z⟩ := He.ba z
  obtain ⟨z24, z⟩ := He.ba z
  obtain ⟨z25, z⟩ := He.ba z
  obtain ⟨z26, z⟩ := He.ba z
  obtain ⟨z27, z⟩ := He.ba z
  obtain ⟨z28, z⟩ := He.ba z
  obtain ⟨z29, z⟩ := He.ba z
  obtain ⟨z30, z⟩ := He.ba z
  obtain ⟨z31, z⟩ := He.ba z
  obtain ⟨z32, z⟩ := He.ba z
  obtain ⟨z33, z34⟩ := He.ba z
  exact { says := c, xc := (fun c hc => PV.xc_of (List.all_eq_true.mp z0 c hc)), xi := (fun c hc => List.all_eq_true.mp z1 c hc), xn := (fun c hc => List.all_eq_true.mp z2 c hc), xm := (fun c d hp => of_decide_eq_true (List.all_eq_true.mp z3 (c, d) hp)), kv := (fun c hc => of_decide_eq_true (List.all_eq_true.mp z4 c hc)), dv := (fun x k v hp => PV.dval_of (List.all_eq_true.mp z5 (x, k, v) hp)), glo := (fun x hx => He.glo_ok X G (List.all_eq_true.mp z6 x hx)), free := (fun x hx => He.free_ok X G (List.all_eq_true.mp z7 x hx)), meth := (fun c m hp => He.meth_ok (List.all_eq_true.mp z8 (c, m) hp)), intc := (fun x i hp => He.int_ok X G (List.all_eq_true.mp z9 (x, i) hp)), strc := (fun x i hp => He.str_ok X G (List.all_eq_true.mp z10 (x, i) hp)), cl := (fun c hc => He.cls_ok (List.all_eq_true.mp z11 c hc)), mkr := (fun c hc => He.mkr_ok (List.all_eq_true.mp z12 c hc)), na := (fun c f hp => He.noat_ok (List.all_eq_true.mp z13 (c, f) hp)), cm := (fun c m hp => He5.cmet_of (He.ba (List.all_eq_true.mp z14 (c, m) hp)).1 (He.ba (List.all_eq_true.mp z14 (c, m) hp)).2), sm := (fun c m hp => PV.smet_of (He.ba (List.all_eq_true.mp z15 (c, m) hp)).1 (He.ba (List.all_eq_true.mp z15 (c, m) hp)).2), rd := (fun c hc => ⟨(He.ba (List.all_eq_true.mp z16 c hc)).1, He.eqO_ok (He.ba (List.all_eq_true.mp z16 c hc)).2⟩), ne := (fun c hc => ⟨He.eqO_ok (He.ba (List.all_eq_true.mp z17 c hc)).1, of_decide_eq_true (He.ba (List.all_eq_true.mp z17 c hc)).2⟩), gi := (fun c m hp => List.all_eq_true.mp z18 (c, m) hp), sf := (fun c hc => List.all_eq_true.mp z19 c hc), nf := (fun c m hp => He.eqO_ok (List.all_eq_true.mp z20 (c, m) hp)), ty := (fun T m i hp => He.eqO_ok (List.all_eq_true.mp z21 (T, m, i) hp)), sb := (fun T c hp => of_decide_eq_true (List.all_eq_true.mp z22 (T, c) hp)), pl := (fun c hc => Option.map_eq_some_iff.mp (of_decide_eq_true (List.all_eq_true.mp z23 c hc))), sc := (fun c T hp => of_decide_eq_true (List.all_eq_true.mp z24 (c, T) hp)), on := (fun m hm => He.eqO_ok (List.all_eq_true.mp z25 m hm)), sx := (fun c d hp => of_decide_eq_true (List.all_eq_true.mp z26 (c, d) hp)), kt := (fun T c hp => of_decide_eq_true (List.all_eq_true.mp z27 (T, c) hp)), kc := (fun c T hp => of_decide_eq_true (List.all_eq_true.mp z28 (c, T) hp)), ko := (fun c d b hp => of_decide_eq_true (List.all_eq_true.mp z29 (c, d, b) hp)), cc := (fun c f i hp => PV.cval_of (List.all_eq_true.mp z30 (c, f, i) hp)), ca := (fun c hc => He.eqO_ok (List.all_eq_true.mp z31 c hc)), ob := (fun c hc => of_decide_eq_true (List.all_eq_true.mp z32 c hc)), cg := (He.eqO_ok z33), ct := (of_decide_eq_true z34) }
abbrev R : PySem.W.OpenRow := PySem.W.OpenLaw.row PySem.Challenge.rw_lapseeds_k07_laps_refused
abbrev hk : PySem.W.Hook := ZH.hookL 7 lams chk fn
def ob (s : PySem.W.SharedT) : He.AlD × Bool := ZH.obsLG 7 lams chk fn (HandSHeadRun.getT s)
def loose : List Str := ["is_whole", "is_between", "LapError", "BadPit", "BadNumber", "Nothing", "LAST_PIT", "need_seeds", "Lap", "_law_bag", "_law_draw", "_law_pick", "_law_heard", "_law_three", "_law_pits_right", "_law_seeds_right"]
end K07
namespace K07
open PySem PySem.Spec PyProof.Rows L2 ZL PV
theorem kp_is_whole {K : PySem.W.Frag} {mg : Str → Option Value} (T : TX K mg) : PySem.W.keepIn K (.ref (He.ga K "is_whole")) = true := (T.says.def_ 0).choose_spec.kp
theorem kp_is_between {K : PySem.W.Frag} {mg : Str → Option Value} (T : TX K mg) : PySem.W.keepIn K (.ref (He.ga K "is_between")) = true := (T.says.def_ 1).choose_spec.kp
theorem kp_law_bag {K : PySem.W.Frag} {mg : Str → Option Value} (T : TX K mg) : PySem.W.keepIn K (.ref (He.ga K "_law_bag")) = true := (T.says.def_ 3).choose_spec.kp
theorem kp_law_draw {K : PySem.W.Frag} {mg : Str → Option Value} (T : TX K mg) : PySem.W.keepIn K (.ref (He.ga K "_law_draw")) = true := (T.says.def_ 4).choose_spec.kp
theorem kp_law_pick {K : PySem.W.Frag} {mg : Str → Option Value} (T : TX K mg) : PySem.W.keepIn K (.ref (He.ga K "_law_pick")) = true := (T.says.def_ 5).choose_spec.kp
theorem kp_law_heard {K : PySem.W.Frag} {mg : Str → Option Value} (T : TX K mg) : PySem.W.keepIn K (.ref (He.ga K "_law_heard")) = true := (T.says.def_ 6).choose_spec.kp
theorem kp_law_three {K : PySem.W.Frag} {mg : Str → Option Value} (T : TX K mg) : PySem.W.keepIn K (.ref (He.ga K "_law_three")) = true := (T.says.def_ 7).choose_spec.kp
theorem kp_law_pits_right {K : PySem.W.Frag} {mg : Str → Option Value} (T : TX K mg) : PySem.W.keepIn K (.ref (He.ga K "_law_pits_right")) = true := (T.says.def_ 8).choose_spec.kp
theorem kp_need_seeds {K : PySem.W.Frag} {mg : Str → Option Value} (T : TX K mg) : PySem.W.keepIn K (.ref (He.ga K "need_seeds")) = true := (T.says.def_ 9).choose_spec.kp
theorem kp_law_seeds_right {K : PySem.W.Frag} {mg : Str → Option Value} (T : TX K mg) : PySem.W.keepIn K (.ref (He.ga K "_law_seeds_right")) = true := (T.says.def_ 17).choose_spec.kp
theorem cf_ {K : PySem.W.Frag} {mg : Str → Option Value} (T : TX K mg) (c : String) (h : Str.ofString c ∈ clss) : CF K c := ⟨T.cl _ h, T.ca _ h, T.cg, T.ct, T.ob _ h⟩
theorem nf_six {K : PySem.W.Frag} {mg : Str → Option Value} (T : TX K mg) (c : String) (h : (six.all fun t => decide ((t, Str.ofString c) ∈ subs)) = true) (n : String) (hn : n ∈ six) : PySem.W.notFirst K (gaS K c) (tyV' K (.b n)) = true := by
  have z := T.sb n (Str.ofString c) (of_decide_eq_true (List.all_eq_true.mp h n hn))
  show (_ || _) = true
  rw [show PySem.W.subIn K (tyV' K (.b n)) (.ref (gaS K c)) = some false from z]
  simp
theorem kt_six {K : PySem.W.Frag} {mg : Str → Option Value} (T : TX K mg) (c : String) (h : (six.all fun t => decide ((t, Str.ofString c) ∈ kits)) = true) (n : String) (hn : n ∈ six) : PySem.W.kitOne K (.type n) (.ref (gaS K c)) = some false := T.kt n (Str.ofString c) (of_decide_eq_true (List.all_eq_true.mp h n hn))
theorem fF_law_heard {K : PySem.W.Frag} {mg : Str → Option Value} (T : TX K mg) : FunD K "_law_heard" "_law_heard" (defArgs s_law_heard) (defBody s_law_heard) (defScope s_law_heard) [] [] (He.ga K "_law_heard") (T.says.def_ 6).choose := (T.says.def_ 6).choose_spec
theorem sc_BadNumberD_initD : FnScope ["self", "value"] ["self", "value"] (defScope s_BadNumberD_initD) := ⟨rfl, rfl, rfl, by decide +kernel, rfl, by decide +kernel, by decide +kernel⟩
noncomputable def xd_BadNumber {K : PySem.W.Frag} {mg : Str → Option Value} (T : TX K mg) : FuncData := (T.says.def_ 19).choose
theorem x_BadNumber {P : Program} {w : World} {K : PySem.W.Frag} {mg : Str → Option Value} {base : Heap} (T : TX K mg) : FnOk P w K mg base (L2.CX P w) 1 (mO K "BadNumber" "__init__") (xd_BadNumber T) ["self", "value"] (spX1 (gaS K "BadNumber") (Str.ofString "value")) := ok_x1 (st := s_BadNumberD_initD) (T.says.def_ 19).choose_spec sc_BadNumberD_initD rfl (oex_of (T.xc "BadNumber" (by decide +kernel)) (T.xi "BadNumber" (by decide +kernel))) (T.nf "BadNumber" "value" (by decide +kernel))
theorem xb_BadNumber {K : PySem.W.Frag} {mg : Str → Option Value} (T : TX K mg) : Binds K (xd_BadNumber T) ["self", "value"] [] := (T.says.def_ 19).choose_spec.bindsN (fun _ _ _ _ _ _ us hl => match us, hl with | [_, _], _ => rfl)
theorem sc_BadPitD_initD : FnScope ["self", "value"] ["self", "value"] (defScope s_BadPitD_initD) := ⟨rfl, rfl, rfl, by decide +kernel, rfl, by decide +kernel, by decide +kernel⟩
noncomputable def xd_BadPit {K : PySem.W.Frag} {mg : Str → Option Value} (T : TX K mg) : FuncData := (T.says.def_ 20).choose
theorem x_BadPit {P : Program} {w : World} {K : PySem.W.Frag} {mg : Str → Option Value} {base : Heap} (T : TX K mg) : FnOk P w K mg base (L2.CX P w) 1 (mO K "BadPit" "__init__") (xd_BadPit T) ["self", "value"] (spX1 (gaS K "BadPit") (Str.ofString "value")) := ok_x1 (st := s_BadPitD_initD) (T.says.def_ 20).choose_spec sc_BadPitD_initD rfl (oex_of (T.xc "BadPit" (by decide +kernel)) (T.xi "BadPit" (by decide +kernel))) (T.nf "BadPit" "value" (by decide +kernel))
theorem xb_BadPit {K : PySem.W.Frag} {mg : Str → Option Value} (T : TX K mg) : Binds K (xd_BadPit T) ["self", "value"] [] := (T.says.def_ 20).choose_spec.bindsN (fun _ _ _ _ _ _ us hl => match us, hl with | [_, _], _ => rfl)
end K07
set_option Elab.async false
set_option linter.all false
set_option maxRecDepth 100000
set_option maxHeartbeats 4000000
namespace K07H
open PySem PySem.W PySem.Calls PyProof.Rows HandSHeadRun HX
def as0 : List Addr := [3, 16, 20, 21, 23, 27, 28, 37, 38, 50, 54, 55, 57, 58, 69, 73, 74, 76, 77, 88, 89, 93, 97, 98, 107, 111, 112, 114, 116, 117, 119, 123, 124, 126, 130, 131, 133, 137, 138, 140, 144, 145, 168, 172, 173, 175, 179, 180, 187, 188, 194, 198, 199, 201, 205, 206, 208, 212, 213, 215, 219, 220, 222, 226, 227, 229, 233, 234, 236, 240, 241, 243, 247, 248]
noncomputable def K0 (P : Params) : Frag := [(3, o3_1 P), (16, o16), (20, o20), (21, o21), (23, o23), (27, o27), (28, o28), (37, o37 P), (38, o38), (50, o50), (54, o54), (55, o55), (57, o57 P), (58, o58), (69, o69), (73, o73), (74, o74), (76, o76 P), (77, o77), (88, o88 P), (89, o89), (93, o93), (97, o97), (98, o98), (107, o107), (111, o111), (112, o112), (114, o114), (116, o116), (117, o117), (119, o119), (123, o123), (124, o124), (126, o126), (130, o130), (131, o131), (133, o133), (137, o137), (138, o138), (140, o140), (144, o144), (145, o145), (168, o168), (172, o172), (173, o173), (175, o175), (179, o179), (180, o180), (187, o187 P), (188, o188), (194, o194), (198, o198), (199, o199), (201, o201), (205, o205), (206, o206), (208, o208), (212, o212), (213, o213), (215, o215), (219, o219), (220, o220), (222, o222), (226, o226), (227, o227), (229, o229), (233, o233), (234, o234), (236, o236), (240, o240), (241, o241), (243, o243), (247, o247), (248, o248)]
theorem ea (P : Params) : as0 = (K0 P).map (·.1) := rfl
theorem l3 (w : World) (os : OsState) : ZH.obF as0 (S1 w os) = (K0 w.params).map (fun p => some p.2) := by kernel_rfl
end K07H
set_option Elab.async false
set_option linter.all false
set_option maxRecDepth 100000
set_option maxHeartbeats 4000000
namespace K07
open PySem PySem.W PySem.Calls PyProof.Rows HandSHeadRun HX K07H
theorem l1 (w : World) (os : OsState) : looksF R.prog (boot_heap w.params) (S1 w os).abs = true := by kernel_rfl
theorem l2 (w : World) (os : OsState) : seenQ (PySem.W.view R.prog [20]) loose (importedModules R.prog.main.body) (fun s => xlAt (PySem.W.view R.prog [20]) [] s && recOk R.toRowW.records s) (S1 w os).abs = openGood (PySem.W.view R.prog [20]) loose := by kernel_rfl
def SaysF (w : World) (K : Frag) : Prop := ZH.SaysL lams chk fn K
noncomputable abbrev KD (w : World) : Frag := ZH.dropT lams (K0 w.params)
theorem and2 {a b : Bool} (h : a = true) (h2 : b = true) : (a && b) = true := by rw [h, h2]; rfl
theorem says_of {lams : List Str} {chk : Frag → Bool} {fn : List He5.DefA} {Ka : Frag} (h1 : chk (ZH.dropT lams Ka) = true) (h2 : (fn.all fun d => d.ok (ZH.dropT lams Ka)) = true) (h3 : (fn.map fun d => He5.fnA (ZH.dropT lams Ka) (d.at_ (ZH.dropT lams Ka))) = fn.map He5.DefA.val) (h4 : ZH.tabsB lams Ka (ZH.dropT lams Ka) = true) : ZH.SaysL lams chk fn Ka := by
  unfold ZH.SaysL ZH.obsL ZH.obsZ He5.valA
  rw [h1, h2, h3, h4]
  rfl
theorem fk0 (w : World) : ((xcs.all fun c => PV.xcB (KD w) (He.ga (KD w) c))) = true := by kernel_rfl
theorem fk1 (w : World) : ((xis.all fun c => PV.oexB (KD w) (He.ga (KD w) c))) = true := by kernel_rfl
theorem fk2 (w : World) : ((xns.all fun c => excIn (KD w) (He.ga (KD w) c) PySem.HandSPX.veTail "ValueError.__new__")) = true := by kernel_rfl
theorem fk3 (w : World) : ((xms.all fun p => decide (exmOne (KD w) (.ref (He.ga (KD w) p.1)) (.ref (He.ga (KD w) p.2)) = some true))) = true := by kernel_rfl
theorem fk4 (w : World) : ((kvs.all fun c => decide (kitOne (KD w) (.ref (He.ga (KD w) c)) (.type "ValueError") = some true))) = true := by kernel_rfl
theorem fk6 (w : World) : ((glos.all fun x => (He.Fa.glo x).ok (KD w))) = true := by kernel_rfl
theorem fk7 (w : World) : ((frees.all fun x => (He.Fa.free x).ok (KD w))) = true := by kernel_rfl
theorem fk8 (w : World) : ((meths.all fun p => (He.Fa.meth p.1 p.2).ok (KD w))) = true := by kernel_rfl
theorem fk9 (w : World) : ((intcs.all fun p => (He.Fa.int p.1 p.2).ok (KD w))) = true := by kernel_rfl
theorem fk10 (w : World) : ((strcs.all fun p => (He.Fa.str p.1 p.2).ok (KD w))) = true := by kernel_rfl
theorem fk11 (w : World) : ((clss.all fun c => (He.Fa.cls c).ok (KD w))) = true := by kernel_rfl
theorem fk12 (w : World) : ((mkrs.all fun c => (He.Fa.mkr c).ok (KD w))) = true := by kernel_rfl
theorem fk13 (w : World) : ((noats.all fun p => (He.Fa.noat p.1 p.2).ok (KD w))) = true := by kernel_rfl
theorem fk14 (w : World) : ((cms.all fun p => He5.wrapB (KD w) (He.ga (KD w) p.1) "classmethod" "classmethod.__get__" p.2 && fnIn (KD w) (wO (KD w) p.1 p.2))) = true := by kernel_rfl
theorem fk15 (w : World) : ((sms.all fun p => He5.wrapB (KD w) (He.ga (KD w) p.1) "staticmethod" "staticmethod.__get__" p.2 && keepIn (KD w) (.ref (uO (KD w) p.1 p.2)))) = true := by kernel_rfl
theorem fk16 (w : World) : ((crds.all fun c => readsIn (KD w) (He.ga (KD w) c) (.type "type") && He.eqO (specialIn (KD w) (.ref (He.ga (KD w) c)) "__getattribute__") (some (some (.builtin "type.__getattribute__"))))) = true := by kernel_rfl
theorem fk17 (w : World) : ((nes.all fun c => He.eqO (findIn (KD w) (.ref (He.ga (KD w) c)) "__ne__") (some (some (.builtin "object.__ne__"))) && decide (mroIn (KD w) (He.ga (KD w) c) (.type "object") = some true))) = true := by kernel_rfl
theorem fk18 (w : World) : ((gis.all fun p => fnIn (KD w) (mO (KD w) p.1 p.2))) = true := by kernel_rfl
theorem fk19 (w : World) : ((selfs.all fun c => selfFirst (KD w) (He.ga (KD w) c))) = true := by kernel_rfl
theorem fk20 (w : World) : ((nofs.all fun p => He.eqO (findIn (KD w) (.ref (He.ga (KD w) p.1)) p.2) (some none))) = true := by kernel_rfl
theorem fk21 (w : World) : ((tys.all fun p => He.eqO (findIn (KD w) (.type p.1) p.2.1) (some (some (.builtin p.2.2))))) = true := by kernel_rfl
theorem fk22 (w : World) : ((subs.all fun p => decide (subIn (KD w) (.type p.1) (.ref (He.ga (KD w) p.2)) = some false))) = true := by kernel_rfl
theorem fk23 (w : World) : ((pls.all fun c => decide ((clsIn (KD w) (He.ga (KD w) c)).map (fun cd => cd.mro) = some [.ref (He.ga (KD w) c), .type "object"]))) = true := by kernel_rfl
theorem fk24 (w : World) : ((subc.all fun p => decide (subIn (KD w) (.ref (He.ga (KD w) p.1)) (.type p.2) = some false))) = true := by kernel_rfl
theorem fk25 (w : World) : ((onos.all fun m => He.eqO (findIn (KD w) (.type "object") m) (some none))) = true := by kernel_rfl
theorem fk26 (w : World) : ((subx.all fun p => decide (subIn (KD w) (.ref (He.ga (KD w) p.1)) (.ref (He.ga (KD w) p.2)) = some false))) = true := by kernel_rfl
theorem fk27 (w : World) : ((kits.all fun p => decide (kitOne (KD w) (.type p.1) (.ref (He.ga (KD w) p.2)) = some false))) = true := by kernel_rfl
theorem fk28 (w : World) : ((kitcs.all fun p => decide (kitOne (KD w) (.ref (He.ga (KD w) p.1)) (.type p.2) = some false))) = true := by kernel_rfl
theorem fk29 (w : World) : ((kitos.all fun p => decide (kitOne (KD w) (.ref (He.ga (KD w) p.1)) (.ref (He.ga (KD w) p.2.1)) = some p.2.2))) = true := by kernel_rfl
theorem fk30 (w : World) : ((ccs.all fun p => match findCls (KD w) (.ref (He.ga (KD w) p.1)) (.type "type") p.2.1 with | some (.val (.int i _)) => decide (i = p.2.2) | _ => false)) = true := by kernel_rfl
theorem fk31 (w : World) : ((clss.all fun c => He.eqO (findIn (KD w) (.ref (He.ga (KD w) c)) "__class__") (some (some (.builtin "object.__class__"))))) = true := by kernel_rfl
theorem fk32 (w : World) : ((clss.all fun c => decide (mroIn (KD w) (He.ga (KD w) c) (.type "object") = some true))) = true := by kernel_rfl
theorem fk33 (w : World) : ((He.eqO (specialIn (KD w) (.builtin "object.__class__") "__get__") (some (some (.builtin "getset_descriptor.__get__"))))) = true := by kernel_rfl
theorem fk34 (w : World) : (decide (takesIn (KD w) (.builtin "object.__class__") = some true)) = true := by kernel_rfl
theorem fchk (w : World) : chk (KD w) = true := by
  refine and2 (fk0 w) (and2 (fk1 w) (and2 (fk2 w) (and2 (fk3 w) (and2 (fk4 w) (and2 (?_) (and2 (fk6 w) (and2 (fk7 w) (and2 (fk8 w) (and2 (fk9 w) (and2 (fk10 w) (and2 (fk11 w) (and2 (fk12 w) (and2 (fk13 w) (and2 (fk14 w) (and2 (fk15 w) (and2 (fk16 w) (and2 (fk17 w) (and2 (fk18 w) (and2 (fk19 w) (and2 (fk20 w) (and2 (fk21 w) (and2 (fk22 w) (and2 (fk23 w) (and2 (fk24 w) (and2 (fk25 w) (and2 (fk26 w) (and2 (fk27 w) (and2 (fk28 w) (and2 (fk29 w) (and2 (fk30 w) (and2 (fk31 w) (and2 (fk32 w) (and2 (fk33 w) (fk34 w))))))))))))))))))))))))))))))))))
  kernel_rfl
theorem ffa (w : World) : (fn.all fun d => d.ok (KD w)) = true := by kernel_rfl
theorem ffm (w : World) : (fn.map fun d => He5.fnA (KD w) (d.at_ (KD w))) = fn.map He5.DefA.val := by kernel_rfl
theorem ftb (w : World) : ZH.tabsB lams (K0 w.params) (KD w) = true := by kernel_rfl
theorem f1a (w : World) : ZH.SaysL lams chk fn (K0 w.params) := says_of (fchk w) (ffa w) (ffm w) (ftb w)
theorem f1 (w : World) : SaysF w (K0 w.params) := f1a w
noncomputable abbrev hkF : PySem.W.Hook := ZH.hookF as0 K0 ea SaysF f1
end K07
set_option Elab.async false
set_option linter.all false
set_option maxRecDepth 100000
set_option maxHeartbeats 4000000
namespace K07
open PySem PySem.Spec PyProof.Rows L2 ZL PV
section
variable {P : Program} {w : World} {K : PySem.W.Frag} {mg : Str → Option Value} {base : Heap}
theorem ct_int {X : Cx} (T : TX X.K X.mg) : ∀ c ∈ ["Lap"], CF X.K c ∧ PySem.W.kitOne X.K (.ref (gaS X.K c)) (.type "int") = some false := by
  intro c h
  simp only [List.mem_cons, List.not_mem_nil, or_false] at h
  rcases h with rfl
  · exact ⟨cf_ T "Lap" (by decide +kernel), T.kc "Lap" "int" (by decide +kernel)⟩
theorem ct_bool {X : Cx} (T : TX X.K X.mg) : ∀ c ∈ ["Lap"], CF X.K c ∧ PySem.W.kitOne X.K (.ref (gaS X.K c)) (.type "bool") = some false := by
  intro c h
  simp only [List.mem_cons, List.not_mem_nil, or_false] at h
  rcases h with rfl
  · exact ⟨cf_ T "Lap" (by decide +kernel), T.kc "Lap" "bool" (by decide +kernel)⟩
abbrev N_is_whole : List Str := ["value"]
theorem sc_is_whole : FnScope N_is_whole ["value"] (defScope s_is_whole) := ⟨rfl, rfl, rfl, by decide +kernel, rfl, by decide +kernel, by decide +kernel⟩
noncomputable def F_is_whole : Fn := dfn 1 1 (sSeq (sRet (anE (cal (isiF (isiB "int" ["Lap"]) (isTy "int")) (aCons (v 0) (aCons (k (.ty "int")) aNil))) (noE (cal (isiF (isiB "bool" ["Lap"]) (isTy "bool")) (aCons (v 0) (aCons (k (.ty "bool")) aNil)))))) sNil)
theorem w_is_whole (T : TX K mg) : FnF P w K mg base 1 (He.ga K "is_whole") F_is_whole := by
  obtain ⟨fd, F⟩ := T.says.def_ 0
  exact okF (j := 0) (st := s_is_whole) F sc_is_whole rfl rfl (fun _ _ _ _ _ _ us hl => match us, hl with | [_], _ => rfl) (fun cdv A outer s H E hr => qs_cons (qs_ret (qe_and (qe_blt (cf_isiB (by decide) (ct_int T)) (T.free "isinstance" (by decide +kernel)) (qa_cons (qv 0) (qa_cons (qg_ty (T.free "int" (by decide +kernel)) (by decide +kernel)) qa_nil))) (qe_one (qe_not (qe_blt (cf_isiB (by decide) (ct_bool T)) (T.free "isinstance" (by decide +kernel)) (qa_cons (qv 0) (qa_cons (qg_ty (T.free "bool" (by decide +kernel)) (by decide +kernel)) qa_nil))))))) qs_nil)
abbrev N_is_between : List Str := ["value", "low", "high"]
theorem sc_is_between : FnScope N_is_between ["value", "low", "high"] (defScope s_is_between) := ⟨rfl, rfl, rfl, by decide +kernel, rfl, by decide +kernel, by decide +kernel⟩
noncomputable def F_is_between : Fn := dfn 3 3 (sSeq (sRet (anE (cal F_is_whole (aCons (v 0) aNil)) (chn (leG) (leG) (v 1) (v 0) (v 2)))) sNil)
theorem w_is_between (T : TX K mg) : FnF P w K mg base 2 (He.ga K "is_between") F_is_between := by
  obtain ⟨fd, F⟩ := T.says.def_ 1
  exact okF (j := 1) (st := s_is_between) F sc_is_between rfl rfl (fun _ _ _ _ _ _ us hl => match us, hl with | [_, _, _], _ => rfl) (fun cdv A outer s H E hr => qs_cons (qs_ret (qe_and (qe_call (w_is_whole T) (hr.mono (by decide)) (T.glo "is_whole" (by decide +kernel)) (kp_is_whole T) (qa_cons (qv 0) qa_nil)) (qe_one (qe_chn (of_le) (of_le) (qv 1) (qv 0) (qv 2))))) qs_nil)
theorem fl_pits {X : Cx} (T : TX X.K X.mg) : ∀ c ∈ ["Lap"], Cls X.K (He.ga X.K (Str.ofString c)) ∧ NoAttr X.K (He.ga X.K (Str.ofString c)) (Str.ofString "pits") := by
  intro c h
  simp only [List.mem_cons, List.not_mem_nil, or_false] at h
  rcases h with rfl
  · exact ⟨T.cl "Lap" (by decide +kernel), T.na "Lap" "pits" (by decide +kernel)⟩
abbrev N_LapD_initD : List Str := ["self", "pits", "at", "pit"]
theorem sc_LapD_initD : FnScope N_LapD_initD ((["self"] : List Str) ++ (["pits"] : List Str)) (defScope s_LapD_initD) := ⟨rfl, rfl, rfl, by decide +kernel, rfl, by decide +kernel, by decide +kernel⟩
noncomputable def F_LapD_initD : Fn := dfnV 1 4 (sSeq (sIf (tst (bin (eqG false) (cal lenB (aCons (v 1) aNil)) (k (.int 0)))) (sSeq (sRai "Nothing" [] aNil) sNil) sNil) (sSeq (sFor (.tp [2, 3]) (iEn (aCons (v 1) aNil)) (sSeq (sIf (tOr (tNo (tru (cal F_is_between (aCons (v 3) (aCons (k (.int 0)) (aCons (k (.int 5)) aNil)))))) (tst (bin (inG false) (v 3) (sli (v 1) (oNo) (oSo (v 2)))))) (sSeq (sRai "BadPit" ["value"] (aCons (v 3) aNil)) sNil) sNil) sNil)) (sSeq (sFldS ["Lap"] "pits" (v 0) (v 1)) sNil)))
theorem w_LapD_initD (T : TX K mg) : FnF P w K mg base 3 (mO K "Lap" "__init__") F_LapD_initD := by
  obtain ⟨fd, F⟩ := T.says.def_ 2
  exact okFV (j := 2) (st := s_LapD_initD) (ps := ["self"]) (pv := "pits") F sc_LapD_initD rfl rfl (fun kV doc pm an cdv ct => StX.bind_star1 (B := fun us => bindArgs (PySem.W.fnOf _ _ _ _ _ .none kV doc pm an cdv ct) ⟨us, []⟩) (fun _ => rfl) (fun _ _ _ => rfl)) (fun cdv A outer s H E hr => qs_cons (qs_if (qt_cmp (of_eq hr.units) (qe_blt cf_len (T.free "len" (by decide +kernel)) (qa_cons (qv 1) qa_nil)) qk_int) (qs_cons (qs_rai0 rfl (T.xn "Nothing" (by decide +kernel)) (T.xc "Nothing" (by decide +kernel)) (T.glo "Nothing" (by decide +kernel))) qs_nil) qs_nil) (qs_cons (qs_for (passes_of rfl) rfl (qi_enum (T.free "enumerate" (by decide +kernel)) (qa_cons (qv 1) qa_nil)) (qg_tup rfl (qgs_cons 2 (qgs_cons 3 (qgs_nil) sc_LapD_initD.nd) sc_LapD_initD.nd) rfl) (qs_cons (qs_if (qt_w (qw_or (qt_not (qt_tru (qe_call (w_is_between T) (hr.mono (by decide)) (T.glo "is_between" (by decide +kernel)) (kp_is_between T) (qa_cons (qv 3) (qa_cons qk_int (qa_cons (qg_int (T.intc "LAST_PIT" 5 (by decide +kernel))) qa_nil)))))) (qw_or1 (qt_cmp (of_in (u65 hr)) (qv 3) (qe_sli (qv 1) (qo_none) (qo_some (qv 2))))))) (qs_cons (qs_rai1 rfl (oex_of (T.xc "BadPit" (by decide +kernel)) (T.xi "BadPit" (by decide +kernel))) (T.meth "BadPit" "__init__" (by decide +kernel)).at_ (isFn_ty (T.meth "BadPit" "__init__" (by decide +kernel)).fn) (x_BadPit T) (hr.mono (by decide)) (xb_BadPit T) (T.glo "BadPit" (by decide +kernel)) (qa_cons (qv 3) qa_nil)) qs_nil) qs_nil) qs_nil)) (qs_cons (qs_fld (fl_pits T) (qv 0) (qv 1)) qs_nil)))
abbrev N_law_bag : List Str := ["_law_script", "_law_state", "_law_cell"]
theorem sc_law_bag : FnScope N_law_bag ["_law_script"] (defScope s_law_bag) := ⟨rfl, rfl, rfl, by decide +kernel, rfl, by decide +kernel, by decide +kernel⟩
noncomputable def F_law_bag : Fn := dfn 1 3 (sSeq (sSet 1 (k (.int 31))) (sSeq (sFor (.nm 2) (iSeq (sli (v 0) (oNo) (oSo (k (.int 63))))) (sSeq (sSet 1 (bin (modG) (cal intB (aCons (bin (addG) (bin (addG) (bin (mulG) (v 1) (k (.int 950706376))) (bin (modG) (cal absB (aCons (v 2) aNil)) (k (.int 2147483629)))) (k (.int 47))) aNil)) (k (.int 2147483647)))) sNil)) (sSeq (sRet (dicM [("cells", cal listB (aCons (sli (v 0) (oNo) (oSo (k (.int 63)))) aNil)), ("at", k (.int 0)), ("rest", k (.int 0)), ("state", v 1)])) sNil)))
theorem w_law_bag (T : TX K mg) : FnF P w K mg base 1 (He.ga K "_law_bag") F_law_bag := by
  obtain ⟨fd, F⟩ := T.says.def_ 3
  exact okF (j := 0) (st := s_law_bag) F sc_law_bag rfl rfl (fun _ _ _ _ _ _ us hl => match us, hl with | [_], _ => rfl) (fun cdv A outer s H E hr => qs_cons (qs_set 1 qk_int sc_law_bag.nd) (qs_cons (qs_for (passes_of rfl) rfl (qi_seq (qe_sli (qv 0) (qo_none) (qo_some qk_int))) (qg_name 2 sc_law_bag.nd) (qs_cons (qs_set 1 (qe_bin (of_mod) (qe_typ cf_int (T.free "int" (by decide +kernel)) (qa_cons (qe_bin (of_add) (qe_bin (of_add) (qe_bin (of_mul) (qv 1) qk_int) (qe_bin (of_mod) (qe_blt cf_abs (T.free "abs" (by decide +kernel)) (qa_cons (qv 2) qa_nil)) qk_int)) qk_int) qa_nil)) qk_int) sc_law_bag.nd) qs_nil)) (qs_cons (qs_ret (qe_dicM (qpm_cons (qe_typ cf_list (T.free "list" (by decide +kernel)) (qa_cons (qe_sli (qv 0) (qo_none) (qo_some qk_int)) qa_nil)) (qpm_cons qk_int (qpm_cons qk_int (qpm_cons (qv 1) (qpm_nil))))))) qs_nil)))
abbrev N_law_draw : List Str := ["_law_bag_here", "_law_limit", "_law_cell", "_law_mixed", "_law_found"]
theorem sc_law_draw : FnScope N_law_draw ["_law_bag_here", "_law_limit"] (defScope s_law_draw) := ⟨rfl, rfl, rfl, by decide +kernel, rfl, by decide +kernel, by decide +kernel⟩
noncomputable def F_law_draw : Fn := dfn 2 5 (sSeq (sWhl (tAn (tst (bin (ltG) (bin ddG (v 0) (k (.str "rest"))) (k (.int 2)))) (tst (bin (ltG) (bin ddG (v 0) (k (.str "at"))) (cal lenB (aCons (bin ddG (v 0) (k (.str "cells"))) aNil))))) (sSeq (sSet 2 (cal absB (aCons (bin ixG (bin ddG (v 0) (k (.str "cells"))) (bin ddG (v 0) (k (.str "at")))) aNil))) (sSeq (sDk (v 0) (k (.str "at")) (bin (addG) (bin ddG (v 0) (k (.str "at"))) (k (.int 1)))) (sSeq (sIf (tst (bin (ltG) (v 2) (bin (powG) (k (.int 10)) (k (.int 18))))) (sSeq (sSet 3 (bin (modG) (cal intB (aCons (bin (addG) (bin (powG) (bin (addG) (v 2) (k (.int 19))) (k (.int 3))) (bin (mulG) (bin ddG (v 0) (k (.str "state"))) (bin (addG) (bin ddG (v 0) (k (.str "at"))) (k (.int 1))))) aNil)) (k (.int 2147483629)))) (sSeq (sRet (bin (modG) (v 3) (v 1))) sNil)) sNil) (sSeq (sDk (v 0) (k (.str "rest")) (v 2)) sNil))))) (sSeq (sIf (tst (bin (geG) (bin ddG (v 0) (k (.str "rest"))) (k (.int 2)))) (sSeq (sSet 4 (bin (modG) (cal intB (aCons (bin ddG (v 0) (k (.str "rest"))) aNil)) (v 1))) (sSeq (sDk (v 0) (k (.str "rest")) (bin (fdivG) (bin ddG (v 0) (k (.str "rest"))) (v 1))) (sSeq (sRet (v 4)) sNil))) sNil) (sSeq (sDk (v 0) (k (.str "state")) (bin (modG) (cal intB (aCons (bin (addG) (bin (mulG) (bin ddG (v 0) (k (.str "state"))) (k (.int 950706376))) (k (.int 47))) aNil)) (k (.int 2147483647)))) (sSeq (sRet (bin (modG) (bin (modG) (cal intB (aCons (bin (powG) (bin ddG (v 0) (k (.str "state"))) (k (.int 5))) aNil)) (k (.int 2147483629))) (v 1))) sNil))))
theorem w_law_draw (T : TX K mg) : FnF P w K mg base 1 (He.ga K "_law_draw") F_law_draw := by
  obtain ⟨fd, F⟩ := T.says.def_ 4
  exact okF (j := 0) (st := s_law_draw) F sc_law_draw rfl rfl (fun _ _ _ _ _ _ us hl => match us, hl with | [_, _], _ => rfl) (fun cdv A outer s H E hr => qs_cons (qs_whl (passes_of rfl) (qt_w (qw_and (qt_cmp (of_lt) (qe_dd (u1 hr) (qv 0) qk_str) qk_int) (qw_and1 (qt_cmp (of_lt) (qe_dd (u1 hr) (qv 0) qk_str) (qe_blt cf_len (T.free "len" (by decide +kernel)) (qa_cons (qe_dd (u1 hr) (qv 0) qk_str) qa_nil)))))) (qs_cons (qs_set 2 (qe_blt cf_abs (T.free "abs" (by decide +kernel)) (qa_cons (qe_ix (qe_dd (u1 hr) (qv 0) qk_str) (qe_dd (u1 hr) (qv 0) qk_str)) qa_nil)) sc_law_draw.nd) (qs_cons (qs_dk (u1 hr) (qv 0) qk_str (qe_bin (of_add) (qe_dd (u1 hr) (qv 0) qk_str) qk_int)) (qs_cons (qs_if (qt_cmp (of_lt) (qv 2) (qe_bin (of_pow) qk_int qk_int)) (qs_cons (qs_set 3 (qe_bin (of_mod) (qe_typ cf_int (T.free "int" (by decide +kernel)) (qa_cons (qe_bin (of_add) (qe_bin (of_pow) (qe_bin (of_add) (qv 2) qk_int) qk_int) (qe_bin (of_mul) (qe_dd (u1 hr) (qv 0) qk_str) (qe_bin (of_add) (qe_dd (u1 hr) (qv 0) qk_str) qk_int))) qa_nil)) qk_int) sc_law_draw.nd) (qs_cons (qs_ret (qe_bin (of_mod) (qv 3) (qv 1))) qs_nil)) qs_nil) (qs_cons (qs_dk (u1 hr) (qv 0) qk_str (qv 2)) qs_nil))))) (qs_cons (qs_if (qt_cmp (of_ge) (qe_dd (u1 hr) (qv 0) qk_str) qk_int) (qs_cons (qs_set 4 (qe_bin (of_mod) (qe_typ cf_int (T.free "int" (by decide +kernel)) (qa_cons (qe_dd (u1 hr) (qv 0) qk_str) qa_nil)) (qv 1)) sc_law_draw.nd) (qs_cons (qs_dk (u1 hr) (qv 0) qk_str (qe_bin (of_fdiv) (qe_dd (u1 hr) (qv 0) qk_str) (qv 1))) (qs_cons (qs_ret (qv 4)) qs_nil))) qs_nil) (qs_cons (qs_dk (u1 hr) (qv 0) qk_str (qe_bin (of_mod) (qe_typ cf_int (T.free "int" (by decide +kernel)) (qa_cons (qe_bin (of_add) (qe_bin (of_mul) (qe_dd (u1 hr) (qv 0) qk_str) qk_int) qk_int) qa_nil)) qk_int)) (qs_cons (qs_ret (qe_bin (of_mod) (qe_bin (of_mod) (qe_typ cf_int (T.free "int" (by decide +kernel)) (qa_cons (qe_bin (of_pow) (qe_dd (u1 hr) (qv 0) qk_str) qk_int) qa_nil)) qk_int) (qv 1))) qs_nil))))
abbrev N_law_pick : List Str := ["_law_bag_here", "_law_some"]
theorem sc_law_pick : FnScope N_law_pick ["_law_bag_here", "_law_some"] (defScope s_law_pick) := ⟨rfl, rfl, rfl, by decide +kernel, rfl, by decide +kernel, by decide +kernel⟩
noncomputable def F_law_pick : Fn := dfn 2 2 (sSeq (sRet (bin ixG (v 1) (cal F_law_draw (aCons (v 0) (aCons (cal lenB (aCons (v 1) aNil)) aNil))))) sNil)
theorem w_law_pick (T : TX K mg) : FnF P w K mg base 2 (He.ga K "_law_pick") F_law_pick := by
  obtain ⟨fd, F⟩ := T.says.def_ 5
  exact okF (j := 1) (st := s_law_pick) F sc_law_pick rfl rfl (fun _ _ _ _ _ _ us hl => match us, hl with | [_, _], _ => rfl) (fun cdv A outer s H E hr => qs_cons (qs_ret (qe_ix (qv 1) (qe_call (w_law_draw T) (hr.mono (by decide)) (T.glo "_law_draw" (by decide +kernel)) (kp_law_draw T) (qa_cons (qv 0) (qa_cons (qe_blt cf_len (T.free "len" (by decide +kernel)) (qa_cons (qv 1) qa_nil)) qa_nil))))) qs_nil)
theorem cc_Nothing {X : Cx} (T : TX X.K X.mg) : CallF X (.builtin "isinstance") (isiF (isiC [("Lap", false)]) (isCl "Nothing")) := by
  refine cf_isiC (fun n h => kt_six T "Nothing" (by decide +kernel) n h) fun c b h => ?_
  have h := memLk h
  simp only [List.mem_cons, List.not_mem_nil, or_false, Prod.mk.injEq] at h
  rcases h with ⟨rfl, rfl⟩
  · exact ⟨cf_ T "Lap" (by decide +kernel), T.ko "Lap" "Nothing" false (by decide +kernel)⟩
theorem ix_Nothing {X : Cx} (T : TX X.K X.mg) : CallF X (.builtin "isinstance") (isiX [("BadNumber", false), ("BadPit", false), ("Nothing", true)] (isCl "Nothing") (isiF (isiC [("Lap", false)]) (isCl "Nothing"))) := by
  refine cf_isiX (cc_Nothing T) (fun c h G v r => by cases r <;> simp [isCl] at h; subst h; exact .own _) T.cg T.ct fun c b h => ?_
  have h := memLk h
  have hh := List.all_eq_true.mp (show ([("BadNumber", false), ("BadPit", false), ("Nothing", true)] : List (String × Bool)).all (fun p => decide (Str.ofString p.1 ∈ xcs) && decide ((Str.ofString p.1, Str.ofString "Nothing", p.2) ∈ kitos)) = true by decide +kernel) (c, b) h
  simp only [Bool.and_eq_true, decide_eq_true_eq] at hh
  exact ⟨T.xc (Str.ofString c) hh.1, T.ko (Str.ofString c) (Str.ofString "Nothing") b hh.2⟩
theorem cc_BadNumber {X : Cx} (T : TX X.K X.mg) : CallF X (.builtin "isinstance") (isiF (isiC [("Lap", false)]) (isCl "BadNumber")) := by
  refine cf_isiC (fun n h => kt_six T "BadNumber" (by decide +kernel) n h) fun c b h => ?_
  have h := memLk h
  simp only [List.mem_cons, List.not_mem_nil, or_false, Prod.mk.injEq] at h
  rcases h with ⟨rfl, rfl⟩
  · exact ⟨cf_ T "Lap" (by decide +kernel), T.ko "Lap" "BadNumber" false (by decide +kernel)⟩
theorem ix_BadNumber {X : Cx} (T : TX X.K X.mg) : CallF X (.builtin "isinstance") (isiX [("BadNumber", true), ("BadPit", false), ("Nothing", false)] (isCl "BadNumber") (isiF (isiC [("Lap", false)]) (isCl "BadNumber"))) := by
  refine cf_isiX (cc_BadNumber T) (fun c h G v r => by cases r <;> simp [isCl] at h; subst h; exact .own _) T.cg T.ct fun c b h => ?_
  have h := memLk h
  have hh := List.all_eq_true.mp (show ([("BadNumber", true), ("BadPit", false), ("Nothing", false)] : List (String × Bool)).all (fun p => decide (Str.ofString p.1 ∈ xcs) && decide ((Str.ofString p.1, Str.ofString "BadNumber", p.2) ∈ kitos)) = true by decide +kernel) (c, b) h
  simp only [Bool.and_eq_true, decide_eq_true_eq] at hh
  exact ⟨T.xc (Str.ofString c) hh.1, T.ko (Str.ofString c) (Str.ofString "BadNumber") b hh.2⟩
theorem xf_value {X : Cx} (T : TX X.K X.mg) : ∀ c ∈ ["BadNumber", "BadPit"], XC X.K (He.ga X.K (Str.ofString c)) ∧ PySem.W.findIn X.K (.ref (He.ga X.K (Str.ofString c))) (Str.ofString "value") = some none := by
  intro c h
  simp only [List.mem_cons, List.not_mem_nil, or_false] at h
  rcases h with rfl | rfl
  · exact ⟨T.xc "BadNumber" (by decide +kernel), T.nf "BadNumber" "value" (by decide +kernel)⟩
  · exact ⟨T.xc "BadPit" (by decide +kernel), T.nf "BadPit" "value" (by decide +kernel)⟩
theorem cc_BadPit {X : Cx} (T : TX X.K X.mg) : CallF X (.builtin "isinstance") (isiF (isiC [("Lap", false)]) (isCl "BadPit")) := by
  refine cf_isiC (fun n h => kt_six T "BadPit" (by decide +kernel) n h) fun c b h => ?_
  have h := memLk h
  simp only [List.mem_cons, List.not_mem_nil, or_false, Prod.mk.injEq] at h
  rcases h with ⟨rfl, rfl⟩
  · exact ⟨cf_ T "Lap" (by decide +kernel), T.ko "Lap" "BadPit" false (by decide +kernel)⟩
theorem ix_BadPit {X : Cx} (T : TX X.K X.mg) : CallF X (.builtin "isinstance") (isiX [("BadNumber", false), ("BadPit", true), ("Nothing", false)] (isCl "BadPit") (isiF (isiC [("Lap", false)]) (isCl "BadPit"))) := by
  refine cf_isiX (cc_BadPit T) (fun c h G v r => by cases r <;> simp [isCl] at h; subst h; exact .own _) T.cg T.ct fun c b h => ?_
  have h := memLk h
  have hh := List.all_eq_true.mp (show ([("BadNumber", false), ("BadPit", true), ("Nothing", false)] : List (String × Bool)).all (fun p => decide (Str.ofString p.1 ∈ xcs) && decide ((Str.ofString p.1, Str.ofString "BadPit", p.2) ∈ kitos)) = true by decide +kernel) (c, b) h
  simp only [Bool.and_eq_true, decide_eq_true_eq] at hh
  exact ⟨T.xc (Str.ofString c) hh.1, T.ko (Str.ofString c) (Str.ofString "BadPit") b hh.2⟩
abbrev N_law_heard : List Str := ["_law_ask", "_law_caught", "error"]
theorem sc_law_heard : FnScope N_law_heard ["_law_ask"] (defScope s_law_heard) := ⟨rfl, rfl, rfl, by decide +kernel, rfl, by decide +kernel, by decide +kernel⟩
noncomputable def R_law_heard : MS := sSeq (sIf (tru (cal (isiX [("BadNumber", false), ("BadPit", true), ("Nothing", false)] (isCl "BadPit") (isiF (isiC [("Lap", false)]) (isCl "BadPit"))) (aCons (v 1) (aCons (k (.cls "BadPit")) aNil)))) (sSeq (sRet (tupE (aCons (k (.str "pit")) (aCons (una (fldX ["BadNumber", "BadPit"] "value" fun _ _ => .no) (v 1)) aNil)))) sNil) sNil) (sSeq (sIf (tru (cal (isiX [("BadNumber", true), ("BadPit", false), ("Nothing", false)] (isCl "BadNumber") (isiF (isiC [("Lap", false)]) (isCl "BadNumber"))) (aCons (v 1) (aCons (k (.cls "BadNumber")) aNil)))) (sSeq (sRet (tupE (aCons (k (.str "number")) (aCons (una (fldX ["BadNumber", "BadPit"] "value" fun _ _ => .no) (v 1)) aNil)))) sNil) sNil) (sSeq (sRet (ifE (tru (cal (isiX [("BadNumber", false), ("BadPit", false), ("Nothing", true)] (isCl "Nothing") (isiF (isiC [("Lap", false)]) (isCl "Nothing"))) (aCons (v 1) (aCons (k (.cls "Nothing")) aNil)))) (tupE (aCons (k (.str "nothing")) (aCons (k .non) aNil))) (tupE (aCons (k (.str "odd")) (aCons (k .non) aNil))))) sNil))
noncomputable def F_law_heard : Hrd := hrA 3 1 ["BadNumber", "BadPit", "Nothing"] R_law_heard
theorem hm_law_heard (T : TX K mg) : ∀ c ∈ ["BadNumber", "BadPit", "Nothing"], PySem.W.exmOne K (.ref (gaS K c)) (.ref (He.ga K "LapError")) = some true := by
  intro c h
  simp only [List.mem_cons, List.not_mem_nil, or_false] at h
  rcases h with rfl | rfl | rfl
  · exact T.xm "BadNumber" "LapError" (by decide +kernel)
  · exact T.xm "BadPit" "LapError" (by decide +kernel)
  · exact T.xm "Nothing" "LapError" (by decide +kernel)
theorem g_law_heard {X : Cx} (T : TX X.K X.mg) (hr0 : Room 1 X.A) (cdv : Value) (qq : Str) : LamX.GivesTo X N_law_heard "_law_heard" (defScope s_law_heard) (He.ga X.K "_law_heard") cdv (defBody s_law_heard) "_law_ask" qq (TTh X.K F_law_heard) :=
  gives_A (i := 2) (j := 1) sc_law_heard.nd rfl rfl (by decide) (by decide) (fun _ => rfl) (fun _ => rfl) rfl rfl rfl (T.glo "LapError" (by decide +kernel)) (by decide) (by decide) (by decide) (hm_law_heard T) (fun s H => have hr := hr0.deeper (envOfC "_law_heard" (defScope s_law_heard) s.heap.objs.size (He.ga X.K "_law_heard") cdv); qs_cons (qs_if (qt_tru (qe_blt (ix_BadPit T) (T.free "isinstance" (by decide +kernel)) (qa_cons (qv 1) (qa_cons (qg_cls (T.glo "BadPit" (by decide +kernel))) qa_nil)))) (qs_cons (qs_ret (qe_tup (qa_cons qk_str (qa_cons (qe_fldX (xf_value T) (qv 1)) qa_nil)))) qs_nil) qs_nil) (qs_cons (qs_if (qt_tru (qe_blt (ix_BadNumber T) (T.free "isinstance" (by decide +kernel)) (qa_cons (qv 1) (qa_cons (qg_cls (T.glo "BadNumber" (by decide +kernel))) qa_nil)))) (qs_cons (qs_ret (qe_tup (qa_cons qk_str (qa_cons (qe_fldX (xf_value T) (qv 1)) qa_nil)))) qs_nil) qs_nil) (qs_cons (qs_ret (qe_if (qt_tru (qe_blt (ix_Nothing T) (T.free "isinstance" (by decide +kernel)) (qa_cons (qv 1) (qa_cons (qg_cls (T.glo "Nothing" (by decide +kernel))) qa_nil)))) (qe_tup (qa_cons qk_str (qa_cons (qk_non) qa_nil))) (qe_tup (qa_cons qk_str (qa_cons (qk_non) qa_nil))))) qs_nil))) (fun _ => rfl) (fun _ => rfl) (fun _ => rfl)
abbrev N_law_three : List Str := ["_law_some"]
theorem sc_law_three : FnScope N_law_three ["_law_some"] (defScope s_law_three) := ⟨rfl, rfl, rfl, by decide +kernel, rfl, by decide +kernel, by decide +kernel⟩
noncomputable def F_law_three : Fn := dfn 1 1 (sSeq (sRet (cal (mkF "Lap" F_LapD_initD) (aCons (bin ixG (v 0) (k (.int 0))) (aCons (bin ixG (v 0) (k (.int 1))) (aCons (bin ixG (v 0) (k (.int 2))) aNil))))) sNil)
theorem w_law_three (T : TX K mg) : FnF P w K mg base 5 (He.ga K "_law_three") F_law_three := by
  obtain ⟨fd, F⟩ := T.says.def_ 7
  exact okF (j := 4) (st := s_law_three) F sc_law_three rfl rfl (fun _ _ _ _ _ _ us hl => match us, hl with | [_], _ => rfl) (fun cdv A outer s H E hr => qs_cons (qs_ret (qe_mk mk_frozen (T.mkr "Lap" (by decide +kernel)) (w_LapD_initD T) (hr.mono (by decide)) (T.glo "Lap" (by decide +kernel)) (qa_cons (qe_ix (qv 0) qk_int) (qa_cons (qe_ix (qv 0) qk_int) (qa_cons (qe_ix (qv 0) qk_int) qa_nil))))) qs_nil)
abbrev N_law_pits_right : List Str := ["_law_bag_here", "_law_right", "_law_at", "_law_later", "_law_odd", "_law_some", "_law_due", "_law_twice"]
theorem sc_law_pits_right : FnScope N_law_pits_right ["_law_bag_here"] (defScope s_law_pits_right) := ⟨rfl, rfl, rfl, by decide +kernel, rfl, by decide +kernel, by decide +kernel⟩
noncomputable def F_law_pits_right : Fn := dfn 1 8 (sSeq (sSet 1 (sli (sli (lstE (aCons (k (.int 4)) (aCons (k (.int 0)) (aCons (k (.int 3)) (aCons (k (.int 1)) (aCons (k (.int 5)) (aCons (k (.int 2)) aNil))))))) (oSo (cal F_law_draw (aCons (v 0) (aCons (k (.int 3)) aNil)))) (oNo)) (oNo) (oSo (k (.int 3))))) (sSeq (sPar 2 3 (aCons (cal F_law_draw (aCons (v 0) (aCons (k (.int 3)) aNil))) (aCons (cal F_law_draw (aCons (v 0) (aCons (k (.int 3)) aNil))) aNil))) (sSeq (sSet 4 (cal F_law_pick (aCons (v 0) (aCons (lstE (aCons (k .non) (aCons (k (.bl true)) (aCons (k (.bl false)) (aCons (k (.int 6)) (aCons (una negG (k (.int 1))) (aCons (bin (powG) (k (.int 10)) (k (.int 20))) (aCons (k (.str "0")) (aCons (tupE (aCons (k (.int 1)) aNil)) (aCons (lstE (aCons (k (.int 2)) aNil)) (aCons (dicE) aNil))))))))))) aNil)))) (sSeq (sAsg (.tp [5, 6]) (tupE (aCons (cal listM (aCons (v 1) aNil)) (aCons (v 4) aNil)))) (sSeq (sSub (v 5) (v 2) (v 4)) (sSeq (sIf (tAn (tst (bin (gtG) (v 3) (v 2))) (tst (bin (eqG false) (cal F_law_draw (aCons (v 0) (aCons (k (.int 2)) aNil))) (k (.int 0))))) (sSeq (sSub (v 5) (v 3) (cal F_law_pick (aCons (v 0) (aCons (lstE (aCons (k .non) (aCons (k (.int 7)) (aCons (bin ixG (v 1) (k (.int 0))) aNil)))) aNil)))) sNil) sNil) (sSeq (sIf (tst (bin (eqG true) (cal (reprQ (reprI reprB)) (aCons (lamc F_law_heard (cal F_law_three (aCons (v 5) aNil))) aNil)) (cal (reprQ (reprI reprB)) (aCons (tupE (aCons (k (.str "pit")) (aCons (v 6) aNil))) aNil)))) (sSeq (sRet (k (.bl false))) sNil) sNil) (sSeq (sSet 7 (bin ixG (lstE (aCons (v 1) (aCons (lstE (aCons (bin ixG (v 1) (k (.int 0))) (aCons (bin ixG (v 1) (k (.int 0))) (aCons (v 4) aNil)))) (aCons (lstE (aCons (bin ixG (v 1) (k (.int 1))) (aCons (bin ixG (v 1) (k (.int 0))) (aCons (bin ixG (v 1) (k (.int 1))) aNil)))) aNil)))) (bin (addG) (k (.int 1)) (cal F_law_draw (aCons (v 0) (aCons (k (.int 2)) aNil)))))) (sSeq (sRet (bin (eqG false) (lamc F_law_heard (cal F_law_three (aCons (v 7) aNil))) (tupE (aCons (k (.str "pit")) (aCons (bin ixG (v 7) (k (.int 0))) aNil))))) sNil)))))))))
theorem w_law_pits_right (T : TX K mg) (TB : LamB K mg base lams) : FnFG P w K mg base 8 (He.ga K "_law_pits_right") F_law_pits_right := by
  obtain ⟨fd, F⟩ := T.says.def_ 8
  exact okFGL (j := 7) (st := s_law_pits_right) F sc_law_pits_right rfl rfl (fun _ _ _ _ _ _ us hl => match us, hl with | [_], _ => rfl) (fun cdv A outer s H E hco hgd hr => qs_cons (qs_set 1 (qe_sli (qe_sli (qe_lst (qa_cons qk_int (qa_cons qk_int (qa_cons qk_int (qa_cons qk_int (qa_cons qk_int (qa_cons qk_int qa_nil))))))) (qo_some (qe_call (w_law_draw T) (hr.mono (by decide)) (T.glo "_law_draw" (by decide +kernel)) (kp_law_draw T) (qa_cons (qv 0) (qa_cons qk_int qa_nil)))) (qo_none)) (qo_none) (qo_some qk_int)) sc_law_pits_right.nd) (qs_cons (qs_par 2 3 rfl (qa_cons (qe_call (w_law_draw T) (hr.mono (by decide)) (T.glo "_law_draw" (by decide +kernel)) (kp_law_draw T) (qa_cons (qv 0) (qa_cons qk_int qa_nil))) (qa_cons (qe_call (w_law_draw T) (hr.mono (by decide)) (T.glo "_law_draw" (by decide +kernel)) (kp_law_draw T) (qa_cons (qv 0) (qa_cons qk_int qa_nil))) qa_nil)) sc_law_pits_right.nd) (qs_cons (qs_set 4 (qe_call (w_law_pick T) (hr.mono (by decide)) (T.glo "_law_pick" (by decide +kernel)) (kp_law_pick T) (qa_cons (qv 0) (qa_cons (qe_lst (qa_cons (qk_non) (qa_cons qk_bl (qa_cons qk_bl (qa_cons qk_int (qa_cons (qe_un of_neg qk_int) (qa_cons (qe_bin (of_pow) qk_int qk_int) (qa_cons qk_str (qa_cons (qe_tup (qa_cons qk_int qa_nil)) (qa_cons (qe_lst (qa_cons qk_int qa_nil)) (qa_cons (qe_dic0) qa_nil))))))))))) qa_nil))) sc_law_pits_right.nd) (qs_cons (qs_asg (qe_tup (qa_cons (qe_typ cf_listM (T.free "list" (by decide +kernel)) (qa_cons (qv 1) qa_nil)) (qa_cons (qv 4) qa_nil))) (qg_tup rfl (qgs_cons 5 (qgs_cons 6 (qgs_nil) sc_law_pits_right.nd) sc_law_pits_right.nd) rfl)) (qs_cons (qs_sub (qv 5) (qv 2) (qv 4)) (qs_cons (qs_if (qt_w (qw_and (qt_cmp (of_gt) (qv 3) (qv 2)) (qw_and1 (qt_cmp (of_eq hr.units) (qe_call (w_law_draw T) (hr.mono (by decide)) (T.glo "_law_draw" (by decide +kernel)) (kp_law_draw T) (qa_cons (qv 0) (qa_cons qk_int qa_nil))) qk_int)))) (qs_cons (qs_sub (qv 5) (qv 3) (qe_call (w_law_pick T) (hr.mono (by decide)) (T.glo "_law_pick" (by decide +kernel)) (kp_law_pick T) (qa_cons (qv 0) (qa_cons (qe_lst (qa_cons (qk_non) (qa_cons qk_int (qa_cons (qe_ix (qv 1) qk_int) qa_nil)))) qa_nil)))) qs_nil) qs_nil) (qs_cons (qs_if (qt_cmp (of_ne hr.units) (qe_blt (cf_reprQ hgd hr.units (cf_reprI (cf_repr hgd hr.units))) (T.free "repr" (by decide +kernel)) (qa_cons (qe_lamA (lams := lams) (y := "_law_pits_right") (Ng := N_law_heard) (st := s_law_heard) (k := 5) TB (by decide +kernel) hco rfl (hr.mono (by decide)) (T.glo "_law_heard" (by decide +kernel)) (kp_law_heard T) (fF_law_heard T) sc_law_heard (fun _ _ _ _ _ _ us hl => match us, hl with | [_], _ => rfl) (fun cdv qq => g_law_heard T (hr.mono (by decide)) cdv qq) (by show LamX.lamSB (defScope s_law_pits_right) _ = true; decide +kernel) (fun A outer s H E f c' hr => qe_call (w_law_three T) (hr.mono (by decide)) (T.glo "_law_three" (by decide +kernel)) (kp_law_three T) (qa_cons (qv 5) qa_nil))) qa_nil)) (qe_blt (cf_reprQ hgd hr.units (cf_reprI (cf_repr hgd hr.units))) (T.free "repr" (by decide +kernel)) (qa_cons (qe_tup (qa_cons qk_str (qa_cons (qv 6) qa_nil))) qa_nil))) (qs_cons (qs_ret qk_bl) qs_nil) qs_nil) (qs_cons (qs_set 7 (qe_ix (qe_lst (qa_cons (qv 1) (qa_cons (qe_lst (qa_cons (qe_ix (qv 1) qk_int) (qa_cons (qe_ix (qv 1) qk_int) (qa_cons (qv 4) qa_nil)))) (qa_cons (qe_lst (qa_cons (qe_ix (qv 1) qk_int) (qa_cons (qe_ix (qv 1) qk_int) (qa_cons (qe_ix (qv 1) qk_int) qa_nil)))) qa_nil)))) (qe_bin (of_add) qk_int (qe_call (w_law_draw T) (hr.mono (by decide)) (T.glo "_law_draw" (by decide +kernel)) (kp_law_draw T) (qa_cons (qv 0) (qa_cons qk_int qa_nil))))) sc_law_pits_right.nd) (qs_cons (qs_ret (qe_cmp (of_eq hr.units) (qe_lamA (lams := lams) (y := "_law_pits_right") (Ng := N_law_heard) (st := s_law_heard) (k := 5) TB (by decide +kernel) hco rfl (hr.mono (by decide)) (T.glo "_law_heard" (by decide +kernel)) (kp_law_heard T) (fF_law_heard T) sc_law_heard (fun _ _ _ _ _ _ us hl => match us, hl with | [_], _ => rfl) (fun cdv qq => g_law_heard T (hr.mono (by decide)) cdv qq) (by show LamX.lamSB (defScope s_law_pits_right) _ = true; decide +kernel) (fun A outer s H E f c' hr => qe_call (w_law_three T) (hr.mono (by decide)) (T.glo "_law_three" (by decide +kernel)) (kp_law_three T) (qa_cons (qv 7) qa_nil))) (qe_tup (qa_cons qk_str (qa_cons (qe_ix (qv 7) qk_int) qa_nil))))) qs_nil)))))))))
abbrev N_need_seeds : List Str := ["seeds", "low"]
theorem sc_need_seeds : FnScope N_need_seeds ["seeds", "low"] (defScope s_need_seeds) := ⟨rfl, rfl, rfl, by decide +kernel, rfl, by decide +kernel, by decide +kernel⟩
noncomputable def F_need_seeds : Fn := dfn 2 2 (sSeq (sIf (tOr (tNo (tru (cal F_is_whole (aCons (v 0) aNil)))) (tst (bin (ltG) (v 0) (v 1)))) (sSeq (sRai "BadNumber" ["value"] (aCons (v 0) aNil)) sNil) sNil) sNil)
theorem w_need_seeds (T : TX K mg) : FnF P w K mg base 3 (He.ga K "need_seeds") F_need_seeds := by
  obtain ⟨fd, F⟩ := T.says.def_ 9
  exact okF (j := 2) (st := s_need_seeds) F sc_need_seeds rfl rfl (fun _ _ _ _ _ _ us hl => match us, hl with | [_, _], _ => rfl) (fun cdv A outer s H E hr => qs_cons (qs_if (qt_w (qw_or (qt_not (qt_tru (qe_call (w_is_whole T) (hr.mono (by decide)) (T.glo "is_whole" (by decide +kernel)) (kp_is_whole T) (qa_cons (qv 0) qa_nil)))) (qw_or1 (qt_cmp (of_lt) (qv 0) (qv 1))))) (qs_cons (qs_rai1 rfl (oex_of (T.xc "BadNumber" (by decide +kernel)) (T.xi "BadNumber" (by decide +kernel))) (T.meth "BadNumber" "__init__" (by decide +kernel)).at_ (isFn_ty (T.meth "BadNumber" "__init__" (by decide +kernel)).fn) (x_BadNumber T) (hr.mono (by decide)) (xb_BadNumber T) (T.glo "BadNumber" (by decide +kernel)) (qa_cons (qv 0) qa_nil)) qs_nil) qs_nil) qs_nil)
abbrev N_Lap_laid : List Str := ["self", "seeds", "rounds", "rest", "at"]
theorem sc_Lap_laid : FnScope N_Lap_laid ["self", "seeds"] (defScope s_Lap_laid) := ⟨rfl, rfl, rfl, by decide +kernel, rfl, by decide +kernel, by decide +kernel⟩
noncomputable def F_Lap_laid : Fn := dfn 2 5 (sSeq (sExp (cal F_need_seeds (aCons (v 1) (aCons (k (.int 0)) aNil)))) (sSeq (sAsg (.tp [2, 3]) (tupE (aCons (bin (fdivG) (v 1) (cal lenB (aCons (una (fldG ["Lap"] "pits") (v 0)) aNil))) (aCons (bin (modG) (v 1) (cal lenB (aCons (una (fldG ["Lap"] "pits") (v 0)) aNil))) aNil)))) (sSeq (sRet (cal tupB (aCons (lcE (.nm 4) (iR1 (aCons (cal lenB (aCons (una (fldG ["Lap"] "pits") (v 0)) aNil)) aNil)) tYs (bin (addG) (v 2) (cal intB (aCons (bin (ltG) (v 4) (v 3)) aNil)))) aNil))) sNil)))
theorem w_Lap_laid (T : TX K mg) : FnF P w K mg base 4 (mO K "Lap" "laid") F_Lap_laid := by
  obtain ⟨fd, F⟩ := T.says.def_ 10
  exact okF (j := 3) (st := s_Lap_laid) F sc_Lap_laid rfl rfl (fun _ _ _ _ _ _ us hl => match us, hl with | [_, _], _ => rfl) (fun cdv A outer s H E hr => qs_cons (qs_exp (qe_call (w_need_seeds T) (hr.mono (by decide)) (T.glo "need_seeds" (by decide +kernel)) (kp_need_seeds T) (qa_cons (qv 1) (qa_cons qk_int qa_nil)))) (qs_cons (qs_asg (qe_tup (qa_cons (qe_bin (of_fdiv) (qv 1) (qe_blt cf_len (T.free "len" (by decide +kernel)) (qa_cons (qe_fld (fl_pits T) (qv 0)) qa_nil))) (qa_cons (qe_bin (of_mod) (qv 1) (qe_blt cf_len (T.free "len" (by decide +kernel)) (qa_cons (qe_fld (fl_pits T) (qv 0)) qa_nil))) qa_nil))) (qg_tup rfl (qgs_cons 2 (qgs_cons 3 (qgs_nil) sc_Lap_laid.nd) sc_Lap_laid.nd) rfl)) (qs_cons (qs_ret (qe_typ cf_tup (T.free "tuple" (by decide +kernel)) (qa_cons (qe_lc (own := [("at", 4)]) (.nm 4) rfl rfl sc_Lap_laid.nd (qi_range1 (T.free "range" (by decide +kernel)) (qa_cons (qe_blt cf_len (T.free "len" (by decide +kernel)) (qa_cons (qe_fld (fl_pits T) (qv 0)) qa_nil)) qa_nil)) (blkOk_by (N := N_Lap_laid) (sc := defScope s_Lap_laid) (by decide +kernel)) (fun _ _ _ _ _ => qg_name 4 sc_Lap_laid.nd) (fun _ _ _ _ _ => pts_yes) (fun _ _ _ _ _ => qe_bin (of_add) (qv 2) (qe_typ cf_int (T.free "int" (by decide +kernel)) (qa_cons (qe_cmp (of_lt) (qv 4) (qv 3)) qa_nil)))) qa_nil))) qs_nil)))
abbrev N_Lap_each : List Str := ["self", "seeds", "at"]
theorem sc_Lap_each : GScope N_Lap_each ["self", "seeds"] (defScope s_Lap_each) := ⟨rfl, rfl, rfl, by decide +kernel, rfl, by decide +kernel, by decide +kernel⟩
noncomputable def F_Lap_each : Fn := dfn 2 3 (sSeq (sExp (cal F_need_seeds (aCons (v 1) (aCons (k (.int 0)) aNil)))) sNil)
theorem w_Lap_each (T : TX K mg) : GrF P w K mg base 4 (mO K "Lap" "each") F_Lap_each := by
  obtain ⟨fd, F⟩ := T.says.def_ 11
  exact okGr (j := 3) (st := s_Lap_each) F sc_Lap_each rfl rfl (fun _ _ _ _ _ _ us hl => match us, hl with | [_, _], _ => rfl) rfl (fun cdv A outer s H E pn hr => qs_exp (qe_call (w_need_seeds T) (hr.mono (by decide)) (T.glo "need_seeds" (by decide +kernel)) (kp_need_seeds T) (qa_cons (qv 1) (qa_cons qk_int qa_nil))))
abbrev N_Lap_last : List Str := ["self", "seeds"]
theorem sc_Lap_last : FnScope N_Lap_last ["self", "seeds"] (defScope s_Lap_last) := ⟨rfl, rfl, rfl, by decide +kernel, rfl, by decide +kernel, by decide +kernel⟩
noncomputable def F_Lap_last : Fn := dfn 2 2 (sSeq (sExp (cal F_need_seeds (aCons (v 1) (aCons (k (.int 1)) aNil)))) (sSeq (sRet (bin ixG (una (fldG ["Lap"] "pits") (v 0)) (bin (modG) (bin (subG) (v 1) (k (.int 1))) (cal lenB (aCons (una (fldG ["Lap"] "pits") (v 0)) aNil))))) sNil))
theorem w_Lap_last (T : TX K mg) : FnF P w K mg base 4 (mO K "Lap" "last") F_Lap_last := by
  obtain ⟨fd, F⟩ := T.says.def_ 12
  exact okF (j := 3) (st := s_Lap_last) F sc_Lap_last rfl rfl (fun _ _ _ _ _ _ us hl => match us, hl with | [_, _], _ => rfl) (fun cdv A outer s H E hr => qs_cons (qs_exp (qe_call (w_need_seeds T) (hr.mono (by decide)) (T.glo "need_seeds" (by decide +kernel)) (kp_need_seeds T) (qa_cons (qv 1) (qa_cons qk_int qa_nil)))) (qs_cons (qs_ret (qe_ix (qe_fld (fl_pits T) (qv 0)) (qe_bin (of_mod) (qe_bin (of_sub) (qv 1) qk_int) (qe_blt cf_len (T.free "len" (by decide +kernel)) (qa_cons (qe_fld (fl_pits T) (qv 0)) qa_nil))))) qs_nil))
abbrev N_LapD_rfloordivD : List Str := ["self", "seeds"]
theorem sc_LapD_rfloordivD : FnScope N_LapD_rfloordivD ["self", "seeds"] (defScope s_LapD_rfloordivD) := ⟨rfl, rfl, rfl, by decide +kernel, rfl, by decide +kernel, by decide +kernel⟩
noncomputable def F_LapD_rfloordivD : Fn := dfn 2 2 (sSeq (sExp (cal F_need_seeds (aCons (v 1) (aCons (k (.int 0)) aNil)))) (sSeq (sRet (bin (fdivG) (v 1) (cal lenB (aCons (una (fldG ["Lap"] "pits") (v 0)) aNil)))) sNil))
theorem w_LapD_rfloordivD (T : TX K mg) : FnF P w K mg base 4 (mO K "Lap" "__rfloordiv__") F_LapD_rfloordivD := by
  obtain ⟨fd, F⟩ := T.says.def_ 13
  exact okF (j := 3) (st := s_LapD_rfloordivD) F sc_LapD_rfloordivD rfl rfl (fun _ _ _ _ _ _ us hl => match us, hl with | [_, _], _ => rfl) (fun cdv A outer s H E hr => qs_cons (qs_exp (qe_call (w_need_seeds T) (hr.mono (by decide)) (T.glo "need_seeds" (by decide +kernel)) (kp_need_seeds T) (qa_cons (qv 1) (qa_cons qk_int qa_nil)))) (qs_cons (qs_ret (qe_bin (of_fdiv) (qv 1) (qe_blt cf_len (T.free "len" (by decide +kernel)) (qa_cons (qe_fld (fl_pits T) (qv 0)) qa_nil)))) qs_nil))
abbrev N_LapD_rmodD : List Str := ["self", "seeds"]
theorem sc_LapD_rmodD : FnScope N_LapD_rmodD ["self", "seeds"] (defScope s_LapD_rmodD) := ⟨rfl, rfl, rfl, by decide +kernel, rfl, by decide +kernel, by decide +kernel⟩
noncomputable def F_LapD_rmodD : Fn := dfn 2 2 (sSeq (sExp (cal F_need_seeds (aCons (v 1) (aCons (k (.int 0)) aNil)))) (sSeq (sRet (bin (modG) (v 1) (cal lenB (aCons (una (fldG ["Lap"] "pits") (v 0)) aNil)))) sNil))
theorem w_LapD_rmodD (T : TX K mg) : FnF P w K mg base 4 (mO K "Lap" "__rmod__") F_LapD_rmodD := by
  obtain ⟨fd, F⟩ := T.says.def_ 14
  exact okF (j := 3) (st := s_LapD_rmodD) F sc_LapD_rmodD rfl rfl (fun _ _ _ _ _ _ us hl => match us, hl with | [_, _], _ => rfl) (fun cdv A outer s H E hr => qs_cons (qs_exp (qe_call (w_need_seeds T) (hr.mono (by decide)) (T.glo "need_seeds" (by decide +kernel)) (kp_need_seeds T) (qa_cons (qv 1) (qa_cons qk_int qa_nil)))) (qs_cons (qs_ret (qe_bin (of_mod) (qv 1) (qe_blt cf_len (T.free "len" (by decide +kernel)) (qa_cons (qe_fld (fl_pits T) (qv 0)) qa_nil)))) qs_nil))
abbrev N_LapD_getitemD : List Str := ["self", "k"]
theorem sc_LapD_getitemD : FnScope N_LapD_getitemD ["self", "k"] (defScope s_LapD_getitemD) := ⟨rfl, rfl, rfl, by decide +kernel, rfl, by decide +kernel, by decide +kernel⟩
noncomputable def F_LapD_getitemD : Fn := dfn 2 2 (sSeq (sIf (tNo (tru (cal F_is_between (aCons (v 1) (aCons (k (.int 0)) (aCons (bin (subG) (cal lenB (aCons (una (fldG ["Lap"] "pits") (v 0)) aNil)) (k (.int 1))) aNil)))))) (sSeq (sRai "BadPit" ["value"] (aCons (v 1) aNil)) sNil) sNil) (sSeq (sRet (bin ixG (una (fldG ["Lap"] "pits") (v 0)) (v 1))) sNil))
theorem w_LapD_getitemD (T : TX K mg) : FnF P w K mg base 3 (mO K "Lap" "__getitem__") F_LapD_getitemD := by
  obtain ⟨fd, F⟩ := T.says.def_ 15
  exact okF (j := 2) (st := s_LapD_getitemD) F sc_LapD_getitemD rfl rfl (fun _ _ _ _ _ _ us hl => match us, hl with | [_, _], _ => rfl) (fun cdv A outer s H E hr => qs_cons (qs_if (qt_not (qt_tru (qe_call (w_is_between T) (hr.mono (by decide)) (T.glo "is_between" (by decide +kernel)) (kp_is_between T) (qa_cons (qv 1) (qa_cons qk_int (qa_cons (qe_bin (of_sub) (qe_blt cf_len (T.free "len" (by decide +kernel)) (qa_cons (qe_fld (fl_pits T) (qv 0)) qa_nil)) qk_int) qa_nil)))))) (qs_cons (qs_rai1 rfl (oex_of (T.xc "BadPit" (by decide +kernel)) (T.xi "BadPit" (by decide +kernel))) (T.meth "BadPit" "__init__" (by decide +kernel)).at_ (isFn_ty (T.meth "BadPit" "__init__" (by decide +kernel)).fn) (x_BadPit T) (hr.mono (by decide)) (xb_BadPit T) (T.glo "BadPit" (by decide +kernel)) (qa_cons (qv 1) qa_nil)) qs_nil) qs_nil) (qs_cons (qs_ret (qe_ix (qe_fld (fl_pits T) (qv 0)) (qv 1))) qs_nil))
theorem cc_Lap {X : Cx} (T : TX X.K X.mg) : CallF X (.builtin "isinstance") (isiF (isiC [("Lap", true)]) (isCl "Lap")) := by
  refine cf_isiC (fun n h => kt_six T "Lap" (by decide +kernel) n h) fun c b h => ?_
  have h := memLk h
  simp only [List.mem_cons, List.not_mem_nil, or_false, Prod.mk.injEq] at h
  rcases h with ⟨rfl, rfl⟩
  · exact ⟨cf_ T "Lap" (by decide +kernel), T.ko "Lap" "Lap" true (by decide +kernel)⟩
abbrev N_LapD_eqD : List Str := ["self", "other"]
theorem sc_LapD_eqD : FnScope N_LapD_eqD ["self", "other"] (defScope s_LapD_eqD) := ⟨rfl, rfl, rfl, by decide +kernel, rfl, by decide +kernel, by decide +kernel⟩
noncomputable def F_LapD_eqD : Fn := dfn 2 2 (sSeq (sRet (anE (cal (isiF (isiC [("Lap", true)]) (isCl "Lap")) (aCons (v 1) (aCons (k (.cls "Lap")) aNil))) (bin (eqG false) (una (fldG ["Lap"] "pits") (v 0)) (una (fldG ["Lap"] "pits") (v 1))))) sNil)
theorem w_LapD_eqD (T : TX K mg) : FnF P w K mg base 1 (mO K "Lap" "__eq__") F_LapD_eqD := by
  obtain ⟨fd, F⟩ := T.says.def_ 16
  exact okF (j := 0) (st := s_LapD_eqD) F sc_LapD_eqD rfl rfl (fun _ _ _ _ _ _ us hl => match us, hl with | [_, _], _ => rfl) (fun cdv A outer s H E hr => qs_cons (qs_ret (qe_and (qe_blt (cc_Lap T) (T.free "isinstance" (by decide +kernel)) (qa_cons (qv 1) (qa_cons (qg_cls (T.glo "Lap" (by decide +kernel))) qa_nil))) (qe_one (qe_cmp (of_eq hr.units) (qe_fld (fl_pits T) (qv 0)) (qe_fld (fl_pits T) (qv 1)))))) qs_nil)
theorem cm_law_seeds_right_eq_11 {X : Cx} (T : TX X.K X.mg) : Cmps X 1 "__eq__" [("Lap", F_LapD_eqD)] ["Lap"] := by
  intro c F h
  have h := memLk h
  simp only [List.mem_cons, List.not_mem_nil, or_false, Prod.mk.injEq] at h
  rcases h with ⟨rfl, rfl⟩
  · refine ⟨fun t h6 ho => ?_, _, Own.of (T.meth "Lap" "__eq__" (by decide +kernel)), (w_LapD_eqD T).mono (by decide)⟩
    match t, h6, ho with
    | .b n, h6, _ => exact nf_six T "Lap" (by decide +kernel) n (h6 n rfl)
    | .c n, _, ho =>
      have ho := List.contains_iff_mem.mp ho
      simp only [List.mem_cons, List.not_mem_nil, or_false] at ho
      rcases ho with rfl
      · simp [PySem.W.notFirst, tyV']
theorem hn_law_seeds_right_12 {X : Cx} (T : TX X.K X.mg) : ∀ c F, List.lookup c ([("Lap", F_LapD_eqD)] : List (String × Fn)) = some F → OwnNe X.K (gaS X.K c) := by
  intro c F h
  have h := memLk h
  simp only [List.mem_cons, List.not_mem_nil, or_false, Prod.mk.injEq] at h
  rcases h with ⟨rfl, rfl⟩
  · exact T.ne "Lap" (by decide +kernel)
theorem mt_law_seeds_right_laid_13 {X : Cx} (T : TX X.K X.mg) : Mths X 4 "laid" [("Lap", F_Lap_laid)] := by
  intro c F h
  have h := memLk h
  simp only [List.mem_cons, List.not_mem_nil, or_false, Prod.mk.injEq] at h
  rcases h with ⟨rfl, rfl⟩
  · exact ⟨T.cl "Lap" (by decide +kernel), _, T.meth "Lap" "laid" (by decide +kernel), (w_Lap_laid T).mono (by decide)⟩
theorem mt_law_seeds_right_last_14 {X : Cx} (T : TX X.K X.mg) : Mths X 4 "last" [("Lap", F_Lap_last)] := by
  intro c F h
  have h := memLk h
  simp only [List.mem_cons, List.not_mem_nil, or_false, Prod.mk.injEq] at h
  rcases h with ⟨rfl, rfl⟩
  · exact ⟨T.cl "Lap" (by decide +kernel), _, T.meth "Lap" "last" (by decide +kernel), (w_Lap_last T).mono (by decide)⟩
abbrev N_law_seeds_right : List Str := ["_law_bag_here", "_law_lap_so", "_law_odd", "_law_text", "_law_heard_here", "_law_pit", "_law_lent", "_law_k"]
theorem sc_law_seeds_right : FnScope N_law_seeds_right ["_law_bag_here", "_law_lap_so"] (defScope s_law_seeds_right) := ⟨rfl, rfl, rfl, by decide +kernel, rfl, by decide +kernel, by decide +kernel⟩
noncomputable def F_law_seeds_right : Fn := dfn 2 8 (sSeq (sSet 2 (cal F_law_pick (aCons (v 0) (aCons (lstE (aCons (k .non) (aCons (k (.bl true)) (aCons (k (.bl false)) (aCons (una negG (k (.int 1))) (aCons (una negG (bin (powG) (k (.int 10)) (k (.int 30)))) (aCons (tupE (aCons (k (.int 1)) aNil)) (aCons (lstE (aCons (k (.int 2)) aNil)) (aCons (dicE) aNil))))))))) aNil)))) (sSeq (sSet 3 (cal F_law_pick (aCons (v 0) (aCons (lstE (aCons (v 2) (aCons (k (.str "3")) (aCons (k (.str "ab")) (aCons (k (.str "")) aNil))))) aNil)))) (sSeq (sSet 4 (lstM (aCons (lamc F_law_heard (bin (rbinX "Lap" "floordiv" F_LapD_rfloordivD (fdivG)) (v 3) (v 1))) aNil))) (sSeq (sExp (mthL appG (v 4) (aCons (lamc F_law_heard (bin (rbinX "Lap" "mod" F_LapD_rmodD (modG)) (v 2) (v 1))) aNil))) (sSeq (sExp (mthL appG (v 4) (aCons (lamc F_law_heard (mtO [("Lap", F_Lap_laid)] "laid" (v 1) (aCons (v 3) aNil))) aNil))) (sSeq (sExp (mthL appG (v 4) (aCons (lamc F_law_heard (lcR "Lap" "BadNumber" F_Lap_each "each" (v 1) (aCons (v 3) aNil))) aNil))) (sSeq (sExp (mthL appG (v 4) (aCons (lamc F_law_heard (mtO [("Lap", F_Lap_last)] "last" (v 1) (aCons (v 3) aNil))) aNil))) (sSeq (sIf (tst (bin (neO [("Lap", F_LapD_eqD)] ["Lap"] (eqG true)) (cal (reprM (reprQ (reprI reprB))) (aCons (frzE (v 4)) aNil)) (cal (reprM (reprQ (reprI reprB))) (aCons (lstE (aCons (tupE (aCons (k (.str "number")) (aCons (v 3) aNil))) (aCons (tupE (aCons (k (.str "number")) (aCons (v 2) aNil))) (aCons (tupE (aCons (k (.str "number")) (aCons (v 3) aNil))) (aCons (tupE (aCons (k (.str "number")) (aCons (v 3) aNil))) (aCons (tupE (aCons (k (.str "number")) (aCons (v 3) aNil))) aNil)))))) aNil)))) (sSeq (sRet (k (.bl false))) sNil) sNil) (sSeq (sIf (tst (bin (neO [("Lap", F_LapD_eqD)] ["Lap"] (eqG true)) (lamc F_law_heard (mtO [("Lap", F_Lap_last)] "last" (v 1) (aCons (k (.int 0)) aNil))) (tupE (aCons (k (.str "number")) (aCons (k (.int 0)) aNil))))) (sSeq (sRet (k (.bl false))) sNil) sNil) (sSeq (sSet 6 (lamc F_law_heard (mtO [("Lap", F_Lap_laid)] "laid" (v 1) (aCons (v 1) aNil)))) (sSeq (sIf (tOr (tst (bin (neO [("Lap", F_LapD_eqD)] ["Lap"] (eqG true)) (bin (ixB "Lap" F_LapD_getitemD) (v 6) (k (.int 0))) (k (.str "number")))) (tst (bin (neO [("Lap", F_LapD_eqD)] ["Lap"] (eqG true)) (bin (ixB "Lap" F_LapD_getitemD) (v 6) (k (.int 1))) (v 1)))) (sSeq (sRet (k (.bl false))) sNil) sNil) (sSeq (sSet 7 (cal F_law_pick (aCons (v 0) (aCons (lstE (aCons (k (.int 3)) (aCons (una negG (k (.int 1))) (aCons (k .non) (aCons (k (.bl true)) (aCons (k (.bl false)) (aCons (k (.str "0")) (aCons (tupE (aCons (k (.int 0)) aNil)) (aCons (lstE (aCons (k (.int 1)) aNil)) (aCons (dicE) (aCons (bin (powG) (k (.int 10)) (k (.int 20))) aNil))))))))))) aNil)))) (sSeq (sRet (bin (eqG false) (cal (reprM (reprQ (reprI reprB))) (aCons (lamc F_law_heard (bin (ixB "Lap" F_LapD_getitemD) (v 1) (v 7))) aNil)) (cal (reprM (reprQ (reprI reprB))) (aCons (tupE (aCons (k (.str "pit")) (aCons (v 7) aNil))) aNil)))) sNil)))))))))))))
theorem w_law_seeds_right (T : TX K mg) (TB : LamB K mg base lams) : FnFG P w K mg base 8 (He.ga K "_law_seeds_right") F_law_seeds_right := by
  obtain ⟨fd, F⟩ := T.says.def_ 17
  exact okFGL (j := 7) (st := s_law_seeds_right) F sc_law_seeds_right rfl rfl (fun _ _ _ _ _ _ us hl => match us, hl with | [_, _], _ => rfl) (fun cdv A outer s H E hco hgd hr => qs_cons (qs_set 2 (qe_call (w_law_pick T) (hr.mono (by decide)) (T.glo "_law_pick" (by decide +kernel)) (kp_law_pick T) (qa_cons (qv 0) (qa_cons (qe_lst (qa_cons (qk_non) (qa_cons qk_bl (qa_cons qk_bl (qa_cons (qe_un of_neg qk_int) (qa_cons (qe_un of_neg (qe_bin (of_pow) qk_int qk_int)) (qa_cons (qe_tup (qa_cons qk_int qa_nil)) (qa_cons (qe_lst (qa_cons qk_int qa_nil)) (qa_cons (qe_dic0) qa_nil))))))))) qa_nil))) sc_law_seeds_right.nd) (qs_cons (qs_set 3 (qe_call (w_law_pick T) (hr.mono (by decide)) (T.glo "_law_pick" (by decide +kernel)) (kp_law_pick T) (qa_cons (qv 0) (qa_cons (qe_lst (qa_cons (qv 2) (qa_cons qk_str (qa_cons qk_str (qa_cons qk_str qa_nil))))) qa_nil))) sc_law_seeds_right.nd) (qs_cons (qs_set 4 (qe_lstM (qa_cons (qe_lamA (lams := lams) (y := "_law_seeds_right") (Ng := N_law_heard) (st := s_law_heard) (k := 4) TB (by decide +kernel) hco rfl (hr.mono (by decide)) (T.glo "_law_heard" (by decide +kernel)) (kp_law_heard T) (fF_law_heard T) sc_law_heard (fun _ _ _ _ _ _ us hl => match us, hl with | [_], _ => rfl) (fun cdv qq => g_law_heard T (hr.mono (by decide)) cdv qq) (by show LamX.lamSB (defScope s_law_seeds_right) _ = true; decide +kernel) (fun A outer s H E f c' hr => qe_bin (of_rdivX (T.pl "Lap" (by decide +kernel)) (T.nf "Lap" "__floordiv__" (by decide +kernel)) (Own.of (T.meth "Lap" "__rfloordiv__" (by decide +kernel))) (T.sc "Lap" "int" (by decide +kernel)) (T.sc "Lap" "bool" (by decide +kernel)) (w_LapD_rfloordivD T) (hr.mono (by decide)) (of_fdiv)) (qv 3) (qv 1))) qa_nil)) sc_law_seeds_right.nd) (qs_cons (qs_exp (qe_mthL PySem.F.slot_list_append PySem.F.type_list_append mf_append (qv 4) (qa_cons (qe_lamA (lams := lams) (y := "_law_seeds_right") (Ng := N_law_heard) (st := s_law_heard) (k := 4) TB (by decide +kernel) hco rfl (hr.mono (by decide)) (T.glo "_law_heard" (by decide +kernel)) (kp_law_heard T) (fF_law_heard T) sc_law_heard (fun _ _ _ _ _ _ us hl => match us, hl with | [_], _ => rfl) (fun cdv qq => g_law_heard T (hr.mono (by decide)) cdv qq) (by show LamX.lamSB (defScope s_law_seeds_right) _ = true; decide +kernel) (fun A outer s H E f c' hr => qe_bin (of_rmodX (T.pl "Lap" (by decide +kernel)) (T.nf "Lap" "__mod__" (by decide +kernel)) (Own.of (T.meth "Lap" "__rmod__" (by decide +kernel))) (T.sc "Lap" "int" (by decide +kernel)) (T.sc "Lap" "bool" (by decide +kernel)) (w_LapD_rmodD T) (hr.mono (by decide)) (of_mod)) (qv 2) (qv 1))) qa_nil))) (qs_cons (qs_exp (qe_mthL PySem.F.slot_list_append PySem.F.type_list_append mf_append (qv 4) (qa_cons (qe_lamA (lams := lams) (y := "_law_seeds_right") (Ng := N_law_heard) (st := s_law_heard) (k := 4) TB (by decide +kernel) hco rfl (hr.mono (by decide)) (T.glo "_law_heard" (by decide +kernel)) (kp_law_heard T) (fF_law_heard T) sc_law_heard (fun _ _ _ _ _ _ us hl => match us, hl with | [_], _ => rfl) (fun cdv qq => g_law_heard T (hr.mono (by decide)) cdv qq) (by show LamX.lamSB (defScope s_law_seeds_right) _ = true; decide +kernel) (fun A outer s H E f c' hr => qe_mt (mt_law_seeds_right_laid_13 T) (hr.mono (by decide)) (qv 1) (qa_cons (qv 3) qa_nil))) qa_nil))) (qs_cons (qs_exp (qe_mthL PySem.F.slot_list_append PySem.F.type_list_append mf_append (qv 4) (qa_cons (qe_lamA (lams := lams) (y := "_law_seeds_right") (Ng := N_law_heard) (st := s_law_heard) (k := 5) TB (by decide +kernel) hco rfl (hr.mono (by decide)) (T.glo "_law_heard" (by decide +kernel)) (kp_law_heard T) (fF_law_heard T) sc_law_heard (fun _ _ _ _ _ _ us hl => match us, hl with | [_], _ => rfl) (fun cdv qq => g_law_heard T (hr.mono (by decide)) cdv qq) (by show LamX.lamSB (defScope s_law_seeds_right) _ = true; decide +kernel) (fun A outer s H E f c' hr => qe_lcR (own := [("_law_pit", 5)]) (cx := "BadNumber") rfl rfl (T.cl "Lap" (by decide +kernel)) (T.meth "Lap" "each" (by decide +kernel)) (w_Lap_each T) (hr.mono (by decide)) (T.sc "BadNumber" "StopIteration" (by decide +kernel)) (blkOk_by (N := N_law_seeds_right) (by kernel_rfl)) (qv 1) (qa_cons (qv 3) qa_nil))) qa_nil))) (qs_cons (qs_exp (qe_mthL PySem.F.slot_list_append PySem.F.type_list_append mf_append (qv 4) (qa_cons (qe_lamA (lams := lams) (y := "_law_seeds_right") (Ng := N_law_heard) (st := s_law_heard) (k := 4) TB (by decide +kernel) hco rfl (hr.mono (by decide)) (T.glo "_law_heard" (by decide +kernel)) (kp_law_heard T) (fF_law_heard T) sc_law_heard (fun _ _ _ _ _ _ us hl => match us, hl with | [_], _ => rfl) (fun cdv qq => g_law_heard T (hr.mono (by decide)) cdv qq) (by show LamX.lamSB (defScope s_law_seeds_right) _ = true; decide +kernel) (fun A outer s H E f c' hr => qe_mt (mt_law_seeds_right_last_14 T) (hr.mono (by decide)) (qv 1) (qa_cons (qv 3) qa_nil))) qa_nil))) (qs_cons (qs_if (qt_cmp (of_neO (hn_law_seeds_right_12 T) (cm_law_seeds_right_eq_11 T) (hr.mono (by decide)) (of_ne hr.units)) (qe_blt (cf_reprM hgd hr.units (cf_reprQ hgd hr.units (cf_reprI (cf_repr hgd hr.units)))) (T.free "repr" (by decide +kernel)) (qa_cons (qe_frz (qv 4)) qa_nil)) (qe_blt (cf_reprM hgd hr.units (cf_reprQ hgd hr.units (cf_reprI (cf_repr hgd hr.units)))) (T.free "repr" (by decide +kernel)) (qa_cons (qe_lst (qa_cons (qe_tup (qa_cons qk_str (qa_cons (qv 3) qa_nil))) (qa_cons (qe_tup (qa_cons qk_str (qa_cons (qv 2) qa_nil))) (qa_cons (qe_tup (qa_cons qk_str (qa_cons (qv 3) qa_nil))) (qa_cons (qe_tup (qa_cons qk_str (qa_cons (qv 3) qa_nil))) (qa_cons (qe_tup (qa_cons qk_str (qa_cons (qv 3) qa_nil))) qa_nil)))))) qa_nil))) (qs_cons (qs_ret qk_bl) qs_nil) qs_nil) (qs_cons (qs_if (qt_cmp (of_neO (hn_law_seeds_right_12 T) (cm_law_seeds_right_eq_11 T) (hr.mono (by decide)) (of_ne hr.units)) (qe_lamA (lams := lams) (y := "_law_seeds_right") (Ng := N_law_heard) (st := s_law_heard) (k := 4) TB (by decide +kernel) hco rfl (hr.mono (by decide)) (T.glo "_law_heard" (by decide +kernel)) (kp_law_heard T) (fF_law_heard T) sc_law_heard (fun _ _ _ _ _ _ us hl => match us, hl with | [_], _ => rfl) (fun cdv qq => g_law_heard T (hr.mono (by decide)) cdv qq) (by show LamX.lamSB (defScope s_law_seeds_right) _ = true; decide +kernel) (fun A outer s H E f c' hr => qe_mt (mt_law_seeds_right_last_14 T) (hr.mono (by decide)) (qv 1) (qa_cons qk_int qa_nil))) (qe_tup (qa_cons qk_str (qa_cons qk_int qa_nil)))) (qs_cons (qs_ret qk_bl) qs_nil) qs_nil) (qs_cons (qs_set 6 (qe_lamA (lams := lams) (y := "_law_seeds_right") (Ng := N_law_heard) (st := s_law_heard) (k := 4) TB (by decide +kernel) hco rfl (hr.mono (by decide)) (T.glo "_law_heard" (by decide +kernel)) (kp_law_heard T) (fF_law_heard T) sc_law_heard (fun _ _ _ _ _ _ us hl => match us, hl with | [_], _ => rfl) (fun cdv qq => g_law_heard T (hr.mono (by decide)) cdv qq) (by show LamX.lamSB (defScope s_law_seeds_right) _ = true; decide +kernel) (fun A outer s H E f c' hr => qe_mt (mt_law_seeds_right_laid_13 T) (hr.mono (by decide)) (qv 1) (qa_cons (qv 1) qa_nil))) sc_law_seeds_right.nd) (qs_cons (qs_if (qt_w (qw_or (qt_cmp (of_neO (hn_law_seeds_right_12 T) (cm_law_seeds_right_eq_11 T) (hr.mono (by decide)) (of_ne hr.units)) (qe_ixB (Own.of (T.meth "Lap" "__getitem__" (by decide +kernel))) (T.gi "Lap" "__getitem__" (by decide +kernel)) (w_LapD_getitemD T) (hr.mono (by decide)) (qv 6) qk_int) qk_str) (qw_or1 (qt_cmp (of_neO (hn_law_seeds_right_12 T) (cm_law_seeds_right_eq_11 T) (hr.mono (by decide)) (of_ne hr.units)) (qe_ixB (Own.of (T.meth "Lap" "__getitem__" (by decide +kernel))) (T.gi "Lap" "__getitem__" (by decide +kernel)) (w_LapD_getitemD T) (hr.mono (by decide)) (qv 6) qk_int) (qv 1))))) (qs_cons (qs_ret qk_bl) qs_nil) qs_nil) (qs_cons (qs_set 7 (qe_call (w_law_pick T) (hr.mono (by decide)) (T.glo "_law_pick" (by decide +kernel)) (kp_law_pick T) (qa_cons (qv 0) (qa_cons (qe_lst (qa_cons qk_int (qa_cons (qe_un of_neg qk_int) (qa_cons (qk_non) (qa_cons qk_bl (qa_cons qk_bl (qa_cons qk_str (qa_cons (qe_tup (qa_cons qk_int qa_nil)) (qa_cons (qe_lst (qa_cons qk_int qa_nil)) (qa_cons (qe_dic0) (qa_cons (qe_bin (of_pow) qk_int qk_int) qa_nil))))))))))) qa_nil))) sc_law_seeds_right.nd) (qs_cons (qs_ret (qe_cmp (of_eq hr.units) (qe_blt (cf_reprM hgd hr.units (cf_reprQ hgd hr.units (cf_reprI (cf_repr hgd hr.units)))) (T.free "repr" (by decide +kernel)) (qa_cons (qe_lamA (lams := lams) (y := "_law_seeds_right") (Ng := N_law_heard) (st := s_law_heard) (k := 4) TB (by decide +kernel) hco rfl (hr.mono (by decide)) (T.glo "_law_heard" (by decide +kernel)) (kp_law_heard T) (fF_law_heard T) sc_law_heard (fun _ _ _ _ _ _ us hl => match us, hl with | [_], _ => rfl) (fun cdv qq => g_law_heard T (hr.mono (by decide)) cdv qq) (by show LamX.lamSB (defScope s_law_seeds_right) _ = true; decide +kernel) (fun A outer s H E f c' hr => qe_ixB (Own.of (T.meth "Lap" "__getitem__" (by decide +kernel))) (T.gi "Lap" "__getitem__" (by decide +kernel)) (w_LapD_getitemD T) (hr.mono (by decide)) (qv 1) (qv 7))) qa_nil)) (qe_blt (cf_reprM hgd hr.units (cf_reprQ hgd hr.units (cf_reprI (cf_repr hgd hr.units)))) (T.free "repr" (by decide +kernel)) (qa_cons (qe_tup (qa_cons qk_str (qa_cons (qv 7) qa_nil))) qa_nil)))) qs_nil)))))))))))))
abbrev N_law : List Str := ["_law_script", "_law_bag_here", "_law_turn", "_law_single", "_law_heard_here"]
theorem sc_law : FnScope N_law ["_law_script"] (defScope s_law) := ⟨rfl, rfl, rfl, by decide +kernel, rfl, by decide +kernel, by decide +kernel⟩
noncomputable def F_law : Fn := dfn 1 5 (sSeq (sSet 1 (cal F_law_bag (aCons (v 0) aNil))) (sSeq (sFor (.nm 2) (iR1 (aCons (k (.int 8)) aNil)) (sSeq (sIf (tOr (tNo (tru (cal F_law_pits_right (aCons (v 1) aNil)))) (tNo (tru (cal F_law_seeds_right (aCons (v 1) (aCons (cal (mkF "Lap" F_LapD_initD) (aCons (k (.int 5)) (aCons (k (.int 0)) (aCons (k (.int 2)) aNil)))) aNil)))))) (sSeq (sRet (k (.bl false))) sNil) sNil) sNil)) (sSeq (sSet 3 (cal F_law_pick (aCons (v 1) (aCons (lstE (aCons (k .non) (aCons (k (.bl true)) (aCons (k (.int 6)) (aCons (una negG (k (.int 1))) (aCons (k (.str "0")) (aCons (tupE aNil) (aCons (lstE aNil) (aCons (dicE) aNil))))))))) aNil)))) (sSeq (sSet 4 (lstM (aCons (lamc F_law_heard (cal (mkF "Lap" F_LapD_initD) aNil)) aNil))) (sSeq (sExp (mthL appG (v 4) (aCons (lamc F_law_heard (cal (mkF "Lap" F_LapD_initD) (aCons (v 3) aNil))) aNil))) (sSeq (sRet (bin (eqG false) (cal (reprM (reprI reprB)) (aCons (frzE (v 4)) aNil)) (cal (reprM (reprI reprB)) (aCons (lstE (aCons (tupE (aCons (k (.str "nothing")) (aCons (k .non) aNil))) (aCons (tupE (aCons (k (.str "pit")) (aCons (v 3) aNil))) aNil))) aNil)))) sNil))))))
theorem w_law (T : TX K mg) (TB : LamB K mg base lams) : FnFG P w K mg base 9 (He.ga K "law") F_law := by
  obtain ⟨fd, F⟩ := T.says.def_ 18
  exact okFGL (j := 8) (st := s_law) F sc_law rfl rfl (fun _ _ _ _ _ _ us hl => match us, hl with | [_], _ => rfl) (fun cdv A outer s H E hco hgd hr => qs_cons (qs_set 1 (qe_call (w_law_bag T) (hr.mono (by decide)) (T.glo "_law_bag" (by decide +kernel)) (kp_law_bag T) (qa_cons (qv 0) qa_nil)) sc_law.nd) (qs_cons (qs_for (passes_of rfl) rfl (qi_range1 (T.free "range" (by decide +kernel)) (qa_cons qk_int qa_nil)) (qg_name 2 sc_law.nd) (qs_cons (qs_if (qt_w (qw_or (qt_not (qt_tru (qe_callG (w_law_pits_right T TB) hgd (hr.mono (by decide)) (T.glo "_law_pits_right" (by decide +kernel)) (kp_law_pits_right T) (qa_cons (qv 1) qa_nil)))) (qw_or1 (qt_not (qt_tru (qe_callG (w_law_seeds_right T TB) hgd (hr.mono (by decide)) (T.glo "_law_seeds_right" (by decide +kernel)) (kp_law_seeds_right T) (qa_cons (qv 1) (qa_cons (qe_mk mk_frozen (T.mkr "Lap" (by decide +kernel)) (w_LapD_initD T) (hr.mono (by decide)) (T.glo "Lap" (by decide +kernel)) (qa_cons qk_int (qa_cons qk_int (qa_cons qk_int qa_nil)))) qa_nil)))))))) (qs_cons (qs_ret qk_bl) qs_nil) qs_nil) qs_nil)) (qs_cons (qs_set 3 (qe_call (w_law_pick T) (hr.mono (by decide)) (T.glo "_law_pick" (by decide +kernel)) (kp_law_pick T) (qa_cons (qv 1) (qa_cons (qe_lst (qa_cons (qk_non) (qa_cons qk_bl (qa_cons qk_int (qa_cons (qe_un of_neg qk_int) (qa_cons qk_str (qa_cons (qe_tup qa_nil) (qa_cons (qe_lst qa_nil) (qa_cons (qe_dic0) qa_nil))))))))) qa_nil))) sc_law.nd) (qs_cons (qs_set 4 (qe_lstM (qa_cons (qe_lamA (lams := lams) (y := "law") (Ng := N_law_heard) (st := s_law_heard) (k := 4) TB (by decide +kernel) hco rfl (hr.mono (by decide)) (T.glo "_law_heard" (by decide +kernel)) (kp_law_heard T) (fF_law_heard T) sc_law_heard (fun _ _ _ _ _ _ us hl => match us, hl with | [_], _ => rfl) (fun cdv qq => g_law_heard T (hr.mono (by decide)) cdv qq) (by show LamX.lamSB (defScope s_law) _ = true; decide +kernel) (fun A outer s H E f c' hr => qe_mk0 mk_frozen (T.mkr "Lap" (by decide +kernel)) (w_LapD_initD T) (hr.mono (by decide)) (T.glo "Lap" (by decide +kernel)))) qa_nil)) sc_law.nd) (qs_cons (qs_exp (qe_mthL PySem.F.slot_list_append PySem.F.type_list_append mf_append (qv 4) (qa_cons (qe_lamA (lams := lams) (y := "law") (Ng := N_law_heard) (st := s_law_heard) (k := 4) TB (by decide +kernel) hco rfl (hr.mono (by decide)) (T.glo "_law_heard" (by decide +kernel)) (kp_law_heard T) (fF_law_heard T) sc_law_heard (fun _ _ _ _ _ _ us hl => match us, hl with | [_], _ => rfl) (fun cdv qq => g_law_heard T (hr.mono (by decide)) cdv qq) (by show LamX.lamSB (defScope s_law) _ = true; decide +kernel) (fun A outer s H E f c' hr => qe_mk mk_frozen (T.mkr "Lap" (by decide +kernel)) (w_LapD_initD T) (hr.mono (by decide)) (T.glo "Lap" (by decide +kernel)) (qa_cons (qv 3) qa_nil))) qa_nil))) (qs_cons (qs_ret (qe_cmp (of_eq hr.units) (qe_blt (cf_reprM hgd hr.units (cf_reprI (cf_repr hgd hr.units))) (T.free "repr" (by decide +kernel)) (qa_cons (qe_frz (qv 4)) qa_nil)) (qe_blt (cf_reprM hgd hr.units (cf_reprI (cf_repr hgd hr.units))) (T.free "repr" (by decide +kernel)) (qa_cons (qe_lst (qa_cons (qe_tup (qa_cons qk_str (qa_cons (qk_non) qa_nil))) (qa_cons (qe_tup (qa_cons qk_str (qa_cons (qv 3) qa_nil))) qa_nil))) qa_nil)))) qs_nil))))))
end
end K07
set_option Elab.async false
set_option linter.all false
set_option maxRecDepth 100000
set_option maxHeartbeats 4000000
namespace PVZ
open PySem PV
abbrev _root_.PV.XQ := String → List (String × D) → Sto → Prop
inductive _root_.PV.Tag {α : Type} (a : α) : Type where
  | mk
def Wp {α : Type} (o : Out α) (Q : α → Sto → Prop) (E : XQ) (_ : Tag (Q, E) := .mk) : Prop := match o with
  | .ok a S => Q a S
  | .ex c fs S => E c fs S
  | .no => False
def Ws (o : Out Fl) (N : Ev → Sto → Prop) (R : D → Sto → Prop) (B C : Ev → Sto → Prop) (E : XQ) (_ : Tag (N, R, B, C, E) := .mk) : Prop := match o with
  | .ok (.nx ρ) S => N ρ S
  | .ok (.rt d) S => R d S
  | .ok (.bk ρ) S => B ρ S
  | .ok (.ct ρ) S => C ρ S
  | .ex c fs S => E c fs S
  | .no => False
section
variable {α β : Type} {o : Out α} {Q Q' : α → Sto → Prop} {E E' : XQ}
theorem Wp.imp (h : Wp o Q E) (i : ∀ a S, Q a S → Q' a S) (j : ∀ c fs S, E c fs S → E' c fs S) : Wp o Q' E' := by
  match o, h with
  | .ok a S, h => exact i a S h
  | .ex c fs S, h => exact j c fs S h
  | .no, h => exact h
theorem wp_ok {a : α} {S : Sto} (h : Q a S) : Wp (.ok a S) Q E := h
theorem wp_eq {a : α} {S : Sto} (e : o = .ok a S) (h : Q a S) : Wp o Q E := by rw [e]; exact h
theorem wp_exq {c : String} {fs : List (String × D)} {S : Sto} (e : o = .ex c fs S) (h : E c fs S) : Wp o Q E := by rw [e]; exact h
theorem Wp.of {o : Out α} (h : Wp o Q fun _ _ _ => False) : ∃ a S, o = .ok a S ∧ Q a S := by
  match o, h with
  | .ok a S, h => exact ⟨a, S, rfl, h⟩
theorem wp_bind {k : α → Sto → Out β} {R : β → Sto → Prop} (h : Wp o (fun a S => Wp (k a S) R E) E) : Wp (o.bind k) R E := by
  match o, h with
  | .ok a S, h => exact h
  | .ex c fs S, h => exact h
  | .no, h => exact h
theorem ws_bind {k : α → Sto → Out Fl} {N : Ev → Sto → Prop} {R : D → Sto → Prop} {B C : Ev → Sto → Prop} (h : Wp o (fun a S => Ws (k a S) N R B C E) E) : Ws (o.bind k) N R B C E := by
  match o, h with
  | .ok a S, h => exact h
  | .ex c fs S, h => exact h
  | .no, h => exact h
theorem Ws.imp {o : Out Fl} {N N' : Ev → Sto → Prop} {R R' : D → Sto → Prop} {B B' C C' : Ev → Sto → Prop} (h : Ws o N R B C E) (i : ∀ ρ S, N ρ S → N' ρ S) (j : ∀ d S, R d S → R' d S) (b : ∀ ρ S, B ρ S → B' ρ S) (c : ∀ ρ S, C ρ S → C' ρ S) (e : ∀ c fs S, E c fs S → E' c fs S) : Ws o N' R' B' C' E' := by
  match o, h with
  | .ok (.nx _) _, h => exact i _ _ h
  | .ok (.rt _) _, h => exact j _ _ h
  | .ok (.bk _) _, h => exact b _ _ h
  | .ok (.ct _) _, h => exact c _ _ h
  | .ex _ _ _, h => exact e _ _ _ h
  | .no, h => exact h
end
theorem ex1 {α : Type} {p q : α → Prop} {a : α} (h : p a) (h2 : q a) : ∃ a, p a ∧ q a := ⟨a, h, h2⟩
section
variable {ρ : Ev} {S : Sto} {Q : D → Sto → Prop} {E : XQ} {a b c : ME} {d : D}
variable {t u : MT}
theorem wp_t {α : Type} {x : Bool} {o o' : Out α} {Q : α → Sto → Prop} (h : x = true) (q : Wp o Q E) : Wp (if x = true then o else o') Q E := by rw [if_pos h]; exact q
theorem wp_f {α : Type} {x : Bool} {o o' : Out α} {Q : α → Sto → Prop} (h : x = false) (q : Wp o' Q E) : Wp (if x = true then o else o') Q E := by rw [if_neg (by rw [h]; decide)]; exact q
theorem wp_ofLen {n : Nat} {F : Fn} {ds : List D} (h : ds.length = n) (q : Wp (F ds S) Q E) : Wp (ofLen n F ds S) Q E := by
  unfold ofLen
  rw [if_pos h]
  exact q
theorem wp_kw {idx : List Nat} {dds ds es : List D} {F : Fn} (h : pickL idx (ds ++ dds) = es) (q : Wp (F es S) Q E) : Wp (kwF idx dds F ds S) Q E := by
  unfold kwF
  rw [h]
  exact q
theorem wp_mul {i j : Int} (h : mulOk i j = true) (q : Q (.int (i * j)) S) : Wp (mulG (.int i) (.int j) S) Q E := by
  have e : mulG (.int i) (.int j) S = .ok (.int (i * j)) S := if_pos h
  rw [e]
  exact q
theorem wp_fdiv {i j : Int} (h : divOk j = true) (q : Q (.int (i / j)) S) : Wp (fdivG (.int i) (.int j) S) Q E := by
  have e : fdivG (.int i) (.int j) S = .ok (.int (i / j)) S := if_pos h
  rw [e]
  exact q
theorem wp_mod {i j : Int} (h : 0 < j) (q : Q (.int (i % j)) S) : Wp (modG (.int i) (.int j) S) Q E := by
  have e : modG (.int i) (.int j) S = .ok (.int (i % j)) S := if_pos h
  rw [e]
  exact q
theorem wp_pow {i j : Int} (h : powOk i j = true) (q : Q (.int (i ^ j.toNat)) S) : Wp (powG (.int i) (.int j) S) Q E := by
  have e : powG (.int i) (.int j) S = .ok (.int (i ^ j.toNat)) S := if_pos h
  rw [e]
  exact q
theorem wp_eqv {x y : D} {e n : Bool} (h : eqD x y = some e) (q : Q (.bl (n ^^ e)) S) : Wp (eqG n x y S) Q E := by
  unfold eqG
  rw [h]
  exact q
theorem wp_ixl {xs : List D} {i : Int} {x : D} (h : L2.atI xs i = some x) (q : Q x S) : Wp (ixG (.lst xs) (.int i) S) Q E := by
  unfold ixG
  simp only [h]
  exact q
theorem wp_fld {cs : List String} {f : String} {x y : D} {c : String} {fs : List (String × D)} (h1 : insOf S x = some (c, fs)) (h2 : cs.contains c = true) (h3 : fs.lookup f = some y) (q : Q y S) : Wp (fldG cs f x S) Q E := by
  unfold fldG
  simp only [h1, h2, h3, if_true]
  exact q
theorem wp_mkF {c : String} {F : Fn} {ds : List D} (h : Wp (F (.loc S.length :: ds) (S ++ [.ins c []])) (fun d S2 => d = .non ∧ ∃ fs, S2[S.length]? = some (.ins c fs) ∧ Wp (gcO S (.ok (.obj c fs) (S2.set S.length .dead))) Q E) (fun x fs S2 => Wp (gcO S (.ex x fs S2)) Q E)) : Wp (mkF c F ds S) Q E := by
  unfold mkF
  generalize F (.loc S.length :: ds) (S ++ [Cell.ins c []]) = o at h ⊢
  match o, h with
  | .ok d S2, h =>
    obtain ⟨rfl, fs, h1, h2⟩ := h
    simp only [h1, if_true]
    exact h2
  | .ex _ _ _, h => exact h
theorem wp_mkF_of {c : String} {F : Fn} {ds : List D} {fs : List (String × D)} (hF : F (.loc S.length :: ds) (S ++ [Cell.ins c []]) = .ok .non ((S ++ [Cell.ins c []]).set S.length (Cell.ins c fs))) (hd : belowf S.length fs = true) (q : Q (.obj c fs) S) : Wp (mkF c F ds S) Q E := by
  refine wp_mkF (wp_eq hF ⟨rfl, fs, by simp, ?_⟩)
  have e : ((S ++ [Cell.ins c []]).set S.length (Cell.ins c fs)).set S.length Cell.dead = S ++ [Cell.dead] := by simp
  rw [e, gc_app (by simpa [D.und] using hd)]
  exact q
theorem mkF_of {c : String} {F : Fn} {ds : List D} {fs : List (String × D)} (hF : F (.loc S.length :: ds) (S ++ [Cell.ins c []]) = .ok .non ((S ++ [Cell.ins c []]).set S.length (Cell.ins c fs))) (hd : belowf S.length fs = true) : mkF c F ds S = .ok (.obj c fs) S := by
  obtain ⟨a, S', e, rfl, rfl⟩ := Wp.of (wp_mkF_of (Q := fun d S' => d = .obj c fs ∧ S' = S) hF hd ⟨rfl, rfl⟩)
  exact e
theorem wp_isi {ans : Ty → Option Bool} {cls : D → Bool} {ds : List D} {b : Bool} (h : isiF ans cls ds S = .ok (.bl b) S) (q : Q (.bl b) S) : Wp (isiF ans cls ds S) Q E := wp_eq h q
theorem wp_isiA {Ts cs : List String} (h : Wp (a ρ S) (fun x S1 => ∃ t, tyD S1 x = some t ∧ (match t with | .b n => Q (.bl (Ts.any fun T => subT n T)) S1 | .c n => cs.contains n = true ∧ Q (.bl false) S1)) E) : Wp (isiA Ts cs a ρ S) Q E := wp_bind (h.imp (fun x S1 q => by
  obtain ⟨t, e, q⟩ := q
  rw [e]
  match t, q with
  | .b n, q => exact q
  | .c n, q =>
    simp only [q.1, if_true]
    exact q.2) fun _ _ _ q => q)
end
section
variable {ρ : Ev} {S : Sto} {N : Ev → Sto → Prop} {R : D → Sto → Prop} {B C : Ev → Sto → Prop} {E : XQ} {a b : MS} {m o : ME} {t : MT}
theorem ws_seq (h : Ws (a ρ S) (fun ρ' S' => Ws (b ρ' S') N R B C E) R B C E) : Ws (sSeq a b ρ S) N R B C E := by
  unfold sSeq
  match a ρ S, h with
  | .ok (.nx _) _, h => exact h
  | .ok (.rt _) _, h => exact h
  | .ok (.bk _) _, h => exact h
  | .ok (.ct _) _, h => exact h
  | .ex _ _ _, h => exact h
  | .no, h => exact h.elim
theorem ws_nil (q : N ρ S) : Ws (sNil ρ S) N R B C E := q
theorem ws_t {x : Bool} {o o' : Out Fl} (h : x = true) (q : Ws o N R B C E) : Ws (if x = true then o else o') N R B C E := by rw [if_pos h]; exact q
theorem ws_f {x : Bool} {o o' : Out Fl} (h : x = false) (q : Ws o' N R B C E) : Ws (if x = true then o else o') N R B C E := by rw [if_neg (by rw [h]; decide)]; exact q
theorem ws_fld {cs : List String} {f : String} (h : Wp (m ρ S) (fun y S1 => Wp (o ρ S1) (fun x S2 => ∃ n c fs, x = .loc n ∧ S2[n]? = some (.ins c fs) ∧ (cs.contains c = true ∧ fs.length < 1000) ∧ N ρ (S2.set n (.ins c (putD f y fs)))) E) E) : Ws (sFldS cs f o m ρ S) N R B C E := ws_bind (h.imp (fun y S1 q => ws_bind (q.imp (fun x S2 q => by
  obtain ⟨n, c, fs, rfl, e1, e2, q⟩ := q
  simp only [e1]
  rw [if_pos e2]
  exact q) fun _ _ _ q => q)) fun _ _ _ q => q)
theorem ws_sub {i : ME} (h : Wp (m ρ S) (fun y S1 => Wp (o ρ S1) (fun x S2 => Wp (i ρ S2) (fun k S3 => ∃ n j xs l, x = .loc n ∧ k = .int j ∧ S3[n]? = some (.lst xs) ∧ L2.ixN xs.length j = some l ∧ N ρ (S3.set n (.lst (xs.set l y)))) E) E) E) : Ws (sSub o i m ρ S) N R B C E := ws_bind (h.imp (fun y S1 q => ws_bind (q.imp (fun x S2 q => ws_bind (q.imp (fun k S3 q => by
  obtain ⟨n, j, xs, l, rfl, rfl, e1, e2, q⟩ := q
  simp only [e1, e2]
  exact q) fun _ _ _ q => q)) fun _ _ _ q => q)) fun _ _ _ q => q)
theorem ws_forL {T : Tg} {g : Option Nat} {all : List D} (I : Nat → Ev → Sto → Prop) (hg : ∀ j ρ S, I j ρ S → Gd g all S) : ∀ (xs : List D) (i : Nat) (ρ : Ev) (S : Sto), (∀ j x, xs[j]? = some x → ∀ ρ S, I (i + j) ρ S → ∃ ρ1, setT T x ρ = some ρ1 ∧ Ws (b ρ1 S) (I (i + j + 1)) R N (I (i + j + 1)) E) → (∀ ρ S, I (i + xs.length) ρ S → N ρ S) → I i ρ S → Ws (forL T b g all xs ρ S) N R B C E
  | [], i, ρ, S, _, hN, h => by
    unfold forL
    rw [if_pos (hg _ _ _ h)]
    exact hN _ _ h
  | x :: xs, i, ρ, S, hs, hN, h => by
    unfold forL
    rw [if_pos (hg _ _ _ h)]
    obtain ⟨ρ1, e, q⟩ := hs 0 x rfl ρ S h
    simp only [e]
    have ih : ∀ ρ' S', I (i + 1) ρ' S' → Ws (forL T b g all xs ρ' S') N R B C E := fun ρ' S' h' => ws_forL I hg xs (i + 1) ρ' S' (fun j y hy ρ S z => by
      have := hs (j + 1) y (by simpa using hy) ρ S (by rw [show i + (j + 1) = i + 1 + j by omega]; exact z)
      rw [show i + (j + 1) = i + 1 + j by omega] at this
      exact this) (fun ρ S z => hN ρ S (by rw [List.length_cons, show i + (xs.length + 1) = i + 1 + xs.length by omega]; exact z)) h'
    match b ρ1 S, q with
    | .ok (.nx _) _, q => exact ih _ _ q
    | .ok (.rt _) _, q => exact q
    | .ok (.bk _) _, q => exact q
    | .ok (.ct _) _, q => exact ih _ _ q
    | .ex _ _ _, q => exact q
    | .no, q => exact q.elim
theorem ws_for {T : Tg} {it : MI} (I : Nat → Ev → Sto → Prop) (h : Wp (it ρ S) (fun p S1 => (∀ j ρ S, I j ρ S → Gd p.2 p.1 S) ∧ I 0 ρ S1 ∧ (∀ j x, p.1[j]? = some x → ∀ ρ S, I j ρ S → ∃ ρ1, setT T x ρ = some ρ1 ∧ Ws (b ρ1 S) (I (j + 1)) R N (I (j + 1)) E) ∧ (∀ ρ S, I p.1.length ρ S → N ρ S)) E) : Ws (sFor T it b ρ S) N R B C E :=
  ws_bind (h.imp (fun p S1 q => by
    obtain ⟨h1, h2, h3, h4⟩ := q
    refine ws_forL I h1 p.1 0 ρ S1 (fun j x hx => ?_) (fun ρ S z => h4 ρ S (by simpa using z)) h2
    rw [Nat.zero_add]
    exact h3 j x hx) fun _ _ _ q => q)
theorem ws_whl (I : Nat → Ev → Sto → Prop) (n : Nat) (h0 : I n ρ S) (hs : ∀ m ρ S, I m ρ S → Wp (t ρ S) (fun c S1 => (c = true → Ws (b ρ S1) (fun ρ' S' => ∃ m', m' < m ∧ I m' ρ' S') R N (fun ρ' S' => ∃ m', m' < m ∧ I m' ρ' S') E) ∧ (c = false → N ρ S1)) E) : Ws (sWhl t b ρ S) N R B C E := by
  have main : ∀ m ρ S, I m ρ S → ∃ n, Ws (whL t b n ρ S) N R B C E := by
    intro m
    induction m using Nat.strongRecOn with
    | ind m ih =>
      intro ρ S h
      have q := hs m ρ S h
      match et : t ρ S, q with
      | .ok false S1, q => exact ⟨1, by unfold whL; rw [et]; exact q.2 rfl⟩
      | .ex _ _ _, q => exact ⟨1, by unfold whL; rw [et]; exact q⟩
      | .no, q => exact q.elim
      | .ok true S1, q =>
        have q := q.1 rfl
        match eb : b ρ S1, q with
        | .ok (.nx ρ') S2, ⟨m', hm, q⟩ =>
          obtain ⟨n, hn⟩ := ih m' hm ρ' S2 q
          exact ⟨n + 1, by unfold whL; rw [et]; show Ws ((b ρ S1).bind _) _ _ _ _ _; rw [eb]; exact hn⟩
        | .ok (.ct ρ') S2, ⟨m', hm, q⟩ =>
          obtain ⟨n, hn⟩ := ih m' hm ρ' S2 q
          exact ⟨n + 1, by unfold whL; rw [et]; show Ws ((b ρ S1).bind _) _ _ _ _ _; rw [eb]; exact hn⟩
        | .ok (.rt d) S2, q => exact ⟨1, by unfold whL; rw [et]; show Ws ((b ρ S1).bind _) _ _ _ _ _; rw [eb]; exact q⟩
        | .ok (.bk ρ') S2, q => exact ⟨1, by unfold whL; rw [et]; show Ws ((b ρ S1).bind _) _ _ _ _ _; rw [eb]; exact q⟩
        | .ex c fs S2, q => exact ⟨1, by unfold whL; rw [et]; show Ws ((b ρ S1).bind _) _ _ _ _ _; rw [eb]; exact q⟩
        | .no, q => exact q.elim
  obtain ⟨n, hn⟩ := main n ρ S h0
  have ne : whL t b n ρ S ≠ .no := fun e => by rw [e] at hn; exact hn
  rw [whl_ok rfl ne]
  exact hn
end
section
variable {S : Sto} {Q : D → Sto → Prop} {E : XQ}
def Gq (S : Sto) (Q : D → Sto → Prop) (E : XQ) (d : D) (S' : Sto) : Prop := Wp (gcO S (.ok d S')) Q E
def Gx (S : Sto) (Q : D → Sto → Prop) (E : XQ) : XQ := fun c fs S' => Wp (gcO S (.ex c fs S')) Q E
theorem gq_len {d : D} {S' : Sto} (h : S'.length = S.length) (q : Q d S') : Gq S Q E d S' := by
  unfold Gq
  rw [gc_len h]
  exact q
theorem gq_same {d : D} (q : Q d S) : Gq S Q E d S := gq_len rfl q
theorem wp_dfn {np n : Nat} {b : MS} {ds : List D} (hl : ds.length = np) (h : Ws (b (ds.map some ++ List.replicate (n - np) none) S) (fun _ S' => Gq S Q E .non S') (Gq S Q E) (fun _ _ => False) (fun _ _ => False) (Gx S Q E)) : Wp (dfn np n b ds S) Q E := by
  unfold dfn
  rw [if_pos hl]
  match b (ds.map some ++ List.replicate (n - np) none) S, h with
  | .ok (.nx _) _, h => exact h
  | .ok (.rt _) _, h => exact h
  | .ex _ _ _, h => exact h
theorem wp_dfnV {np n : Nat} {b : MS} {ds : List D} (hl : np ≤ ds.length) (hl2 : ds.length ≤ 1000) (h : Wp (dfn (np + 1) n b (ds.take np ++ [.tup (ds.drop np)]) S) Q E) : Wp (dfnV np n b ds S) Q E := by
  unfold dfnV
  rw [if_pos ⟨hl, hl2⟩]
  exact h
end
end PVZ
set_option Elab.async false
set_option linter.all false
set_option maxRecDepth 100000
set_option maxHeartbeats 4000000
namespace PVZ
open PySem PV
theorem Wp_Q {α : Type} {o : Out α} {Q Q' : α → Sto → Prop} {E : XQ} (h : ∀ a S, Q a S = Q' a S) : Wp o Q E = Wp o Q' E := by
  have e : Q = Q' := funext fun a => funext fun S => h a S
  subst e
  rfl
section
variable {α β : Type} {E : XQ} {S : Sto} {ρ : Ev}
theorem Q_bind {o : Out α} {k : α → Sto → Out β} {Q : β → Sto → Prop} : Wp (o.bind k) Q E = Wp o (fun a S => Wp (k a S) Q E) E := by cases o <;> rfl
theorem Q_sbind {o : Out α} {k : α → Sto → Out Fl} {N : Ev → Sto → Prop} {R : D → Sto → Prop} {B C : Ev → Sto → Prop} : Ws (o.bind k) N R B C E = Wp o (fun a S => Ws (k a S) N R B C E) E := by cases o <;> rfl
theorem Q_ok {a : α} {Q : α → Sto → Prop} : Wp (.ok a S) Q E = Q a S := rfl
theorem Q_ex {c : String} {fs : List (String × D)} {Q : α → Sto → Prop} : Wp (.ex c fs S) Q E = E c fs S := rfl
variable {Q : D → Sto → Prop} {d x : D} {o : Option D} {a b c m : ME} {ms : MA} {t u : MT}
theorem Q_v0 : Wp (v 0 (some d :: ρ) S) Q E = Q d S := rfl
theorem Q_vs {n : Nat} : Wp (v (n + 1) (o :: ρ) S) Q E = Wp (v n ρ S) Q E := by
  unfold v
  rw [List.getElem?_cons_succ]
theorem Q_k : Wp (k d ρ S) Q E = Q d S := rfl
theorem Q_bin {g : G2} : Wp (bin g a b ρ S) Q E = Wp (a ρ S) (fun x S1 => Wp (b ρ S1) (fun y S2 => Wp (g x y S2) Q E) E) E := by
  unfold bin
  rw [Q_bind]
  exact Wp_Q fun _ _ => Q_bind
theorem Q_una {g : G1} : Wp (una g a ρ S) Q E = Wp (a ρ S) (fun x S1 => Wp (g x S1) Q E) E := Q_bind
theorem Q_cal {F : Fn} : Wp (cal F ms ρ S) Q E = Wp (ms ρ S) (fun ds S1 => Wp (F ds S1) Q E) E := Q_bind
theorem Q_nil {Q : List D → Sto → Prop} : Wp (aNil ρ S) Q E = Q [] S := rfl
theorem Q_cons {Q : List D → Sto → Prop} : Wp (aCons a ms ρ S) Q E = Wp (a ρ S) (fun x S1 => Wp (ms ρ S1) (fun ds S2 => Q (x :: ds) S2) E) E := by
  unfold aCons
  rw [Q_bind]
  exact Wp_Q fun _ _ => Q_bind
theorem Q_star {Q : List D → Sto → Prop} : Wp (aStar a ms ρ S) Q E = Wp (a ρ S) (fun x S1 => Wp (match x with
  | .lst xs => (ms ρ S1).bind fun ds S2 => .ok (xs ++ ds) S2
  | .tup xs => (ms ρ S1).bind fun ds S2 => .ok (xs ++ ds) S2
  | .loc n => match S1[n]? with
    | some (.lst xs) => (ms ρ S1).bind fun ds S2 => .ok (xs ++ ds) S2
    | _ => .no
  | _ => .no) Q E) E := Q_bind
variable {P : Bool → Sto → Prop}
theorem Q_tst : Wp (tst a ρ S) P E = Wp (a ρ S) (fun d S1 => Wp (match d with | .bl b => Out.ok b S1 | _ => .no) P E) E := Q_bind
theorem Q_tru : Wp (tru a ρ S) P E = Wp (a ρ S) (fun d S1 => Wp (match truD d with | some b => Out.ok b S1 | none => .no) P E) E := Q_bind
theorem Q_no : Wp (tNo t ρ S) P E = Wp (t ρ S) (fun c S1 => P (!c) S1) E := Q_bind
theorem Q_an : Wp (tAn t u ρ S) P E = Wp (t ρ S) (fun c S1 => Wp (if c = true then u ρ S1 else .ok false S1) P E) E := Q_bind
theorem Q_or : Wp (tOr t u ρ S) P E = Wp (t ρ S) (fun c S1 => Wp (if c = true then .ok true S1 else u ρ S1) P E) E := Q_bind
theorem Q_ifE : Wp (ifE t a b ρ S) Q E = Wp (t ρ S) (fun c S1 => Wp (if c = true then a ρ S1 else b ρ S1) Q E) E := Q_bind
def _root_.PV.anD (b : ME) (ρ : Ev) (d : D) (S1 : Sto) : Out D := match d with
  | .bl c => if c = true then b ρ S1 else .ok (.bl false) S1
  | _ => .no
def _root_.PV.orD (b : ME) (ρ : Ev) (d : D) (S1 : Sto) : Out D := match d with
  | .bl c => if c = true then .ok (.bl true) S1 else b ρ S1
  | _ => .no
theorem Q_anE : Wp (anE a b ρ S) Q E = Wp (a ρ S) (fun d S1 => Wp (anD b ρ d S1) Q E) E := by
  unfold anE
  rw [Q_bind]
  refine Wp_Q fun d S1 => ?_
  cases d with
  | bl c => cases c <;> rfl
  | _ => rfl
theorem Q_orE : Wp (orE a b ρ S) Q E = Wp (a ρ S) (fun d S1 => Wp (orD b ρ d S1) Q E) E := by
  unfold orE
  rw [Q_bind]
  refine Wp_Q fun d S1 => ?_
  cases d with
  | bl c => cases c <;> rfl
  | _ => rfl
theorem Q_anD {c : Bool} : Wp (anD b ρ (.bl c) S) Q E = Wp (if c = true then b ρ S else .ok (.bl false) S) Q E := rfl
theorem Q_orD {c : Bool} : Wp (orD b ρ (.bl c) S) Q E = Wp (if c = true then .ok (.bl true) S else b ρ S) Q E := rfl
theorem Q_noE : Wp (noE a ρ S) Q E = Wp (a ρ S) (fun d S1 => Wp (match d with | .bl b => .ok (.bl (!b)) S1 | _ => .no) Q E) E := Q_bind
def _root_.PV.chD (g' : G2) (y : D) (c : ME) (ρ : Ev) (z : D) (S3 : Sto) : Out D := match z with
  | .bl t => if t = true then (c ρ S3).bind fun u S4 => g' y u S4 else .ok (.bl false) S3
  | _ => .no
theorem Q_chn {g g' : G2} : Wp (chn g g' a b c ρ S) Q E = Wp (a ρ S) (fun x S1 => Wp (b ρ S1) (fun y S2 => Wp (g x y S2) (fun z S3 => Wp (chD g' y c ρ z S3) Q E) E) E) E := by
  unfold chn
  rw [Q_bind]
  refine Wp_Q fun x S1 => Q_bind.trans (Wp_Q fun y S2 => Q_bind.trans (Wp_Q fun z S3 => ?_))
  cases z with
  | bl c => cases c <;> rfl
  | _ => rfl
theorem Q_chD {g' : G2} {y : D} {t : Bool} : Wp (chD g' y c ρ (.bl t) S) Q E = Wp (if t = true then (c ρ S).bind fun u S4 => g' y u S4 else .ok (.bl false) S) Q E := rfl
theorem Q_t {o o' : Out α} {Q : α → Sto → Prop} : Wp (if true = true then o else o') Q E = Wp o Q E := rfl
theorem Q_f {o o' : Out α} {Q : α → Sto → Prop} : Wp (if false = true then o else o') Q E = Wp o' Q E := rfl
theorem Q_T {h : Decidable True} {o o' : Out α} {Q : α → Sto → Prop} : Wp (@ite _ True h o o') Q E = Wp o Q E := by rw [if_pos trivial]
theorem Q_F {h : Decidable False} {o o' : Out α} {Q : α → Sto → Prop} : Wp (@ite _ False h o o') Q E = Wp o' Q E := by rw [if_neg not_false]
theorem wp_dt {p : Prop} [Decidable p] {o o' : Out α} {Q : α → Sto → Prop} (h : p) (q : Wp o Q E) : Wp (if decide p = true then o else o') Q E := wp_t (decide_eq_true h) q
theorem wp_df {p : Prop} [Decidable p] {o o' : Out α} {Q : α → Sto → Prop} (h : ¬ p) (q : Wp o' Q E) : Wp (if decide p = true then o else o') Q E := wp_f (decide_eq_false h) q
def _root_.PV.tupQ (ds : List D) (S1 : Sto) : Out D := if ds.length ≤ 1000 then .ok (.tup ds) S1 else .no
def _root_.PV.lstQ (ds : List D) (S1 : Sto) : Out D := if ds.length ≤ 1000 then .ok (.lst ds) S1 else .no
def _root_.PV.lstMQ (ds : List D) (S1 : Sto) : Out D := if ds.length ≤ 1000 then .ok (.loc S1.length) (S1 ++ [.lst ds]) else .no
theorem Q_tup : Wp (tupE ms ρ S) Q E = Wp (ms ρ S) (fun ds S1 => Wp (tupQ ds S1) Q E) E := Q_bind
theorem Q_lst : Wp (lstE ms ρ S) Q E = Wp (ms ρ S) (fun ds S1 => Wp (lstQ ds S1) Q E) E := Q_bind
theorem Q_lstM : Wp (lstM ms ρ S) Q E = Wp (ms ρ S) (fun ds S1 => Wp (lstMQ ds S1) Q E) E := Q_bind
theorem wp_tupQ {ds : List D} (h : ds.length ≤ 1000) (q : Q (.tup ds) S) : Wp (tupQ ds S) Q E := by unfold tupQ; rw [if_pos h]; exact q
theorem wp_lstQ {ds : List D} (h : ds.length ≤ 1000) (q : Q (.lst ds) S) : Wp (lstQ ds S) Q E := by unfold lstQ; rw [if_pos h]; exact q
theorem wp_lstMQ {ds : List D} (h : ds.length ≤ 1000) (q : Q (.loc S.length) (S ++ [.lst ds])) : Wp (lstMQ ds S) Q E := by unfold lstMQ; rw [if_pos h]; exact q
theorem Q_cm {C : String} {F : Fn} : Wp (cmE C F (k (.cls C)) ms ρ S) Q E = Wp (ms ρ S) (fun ds S2 => Wp (F (.cls C :: ds) S2) Q E) E := by
  show Wp (if isCl C (.cls C) = true then (ms ρ S).bind fun ds S2 => F (.cls C :: ds) S2 else .no) Q E = _
  rw [if_pos (by simp [isCl]), Q_bind]
theorem Q_sm {C : String} {F : Fn} : Wp (smE C F (k (.cls C)) ms ρ S) Q E = Wp (ms ρ S) (fun ds S2 => Wp (F ds S2) Q E) E := by
  show Wp (if isCl C (.cls C) = true then (ms ρ S).bind fun ds S2 => F ds S2 else .no) Q E = _
  rw [if_pos (by simp [isCl]), Q_bind]
def _root_.PV.mtQ (τ : List (String × Fn)) (n : String) (ms : MA) (ρ : Ev) (x : D) (S1 : Sto) : Out D := match insOf S1 x with
  | some (c, fs) => match τ.lookup c with
    | some F => match fs.lookup n with
      | none => (ms ρ S1).bind fun ds S2 => F (x :: ds) S2
      | some _ => .no
    | none => .no
  | none => .no
theorem Q_mt {τ : List (String × Fn)} {n : String} : Wp (mtO τ n a ms ρ S) Q E = Wp (a ρ S) (fun x S1 => Wp (mtQ τ n ms ρ x S1) Q E) E := Q_bind
theorem wp_mtQ {τ : List (String × Fn)} {n C : String} {fs : List (String × D)} {F : Fn} (e1 : insOf S x = some (C, fs)) (e2 : τ.lookup C = some F) (e3 : fs.lookup n = none) (q : Wp (ms ρ S) (fun ds S2 => Wp (F (x :: ds) S2) Q E) E) : Wp (mtQ τ n ms ρ x S) Q E := by
  unfold mtQ
  simp only [e1, e2, e3]
  rw [Q_bind]
  exact q
def _root_.PV.mtKQ (C : String) (n : String) (l : Nat) (F : Fn) (ms : MA) (ρ : Ev) (x : D) (S1 : Sto) : Out D := match insOf S1 x with
  | some (c', fs) => if c' = C then match fs.lookup n with
      | none => (ms ρ S1).bind fun ds S2 => if ds.length = l then F (x :: ds) S2 else .no
      | some _ => .no
    else .no
  | none => .no
theorem Q_mtK {C n : String} {l : Nat} {F : Fn} : Wp (mtK C n l F a ms ρ S) Q E = Wp (a ρ S) (fun x S1 => Wp (mtKQ C n l F ms ρ x S1) Q E) E := Q_bind
theorem wp_mtKQ {n C : String} {l : Nat} {fs : List (String × D)} {F : Fn} (e1 : insOf S x = some (C, fs)) (e3 : fs.lookup n = none) (q : Wp (ms ρ S) (fun ds S2 => ds.length = l ∧ Wp (F (x :: ds) S2) Q E) E) : Wp (mtKQ C n l F ms ρ x S) Q E := by
  unfold mtKQ
  simp only [e1, e3, if_true]
  exact wp_bind (q.imp (fun ds S2 q => by rw [if_pos q.1]; exact q.2) fun _ _ _ q => q)
def _root_.PV.mthQ (g : D → List D → Sto → Out D) (ms : MA) (ρ : Ev) (x : D) (S1 : Sto) : Out D := if isLoc S1 x = true then (ms ρ S1).bind fun ds S2 => g x ds S2 else .no
theorem Q_mthL {g : D → List D → Sto → Out D} : Wp (mthL g a ms ρ S) Q E = Wp (a ρ S) (fun x S1 => Wp (mthQ g ms ρ x S1) Q E) E := Q_bind
theorem wp_mthQ {g : D → List D → Sto → Out D} {n : Nat} {xs : List D} (h : S[n]? = some (.lst xs)) (q : Wp (ms ρ S) (fun ds S2 => Wp (g (.loc n) ds S2) Q E) E) : Wp (mthQ g ms ρ (.loc n) S) Q E := by
  unfold mthQ
  rw [if_pos (by simp [isLoc, h]), Q_bind]
  exact q
theorem Q_mthS {g : G2} : Wp (mthS g a b ρ S) Q E = Wp (a ρ S) (fun x S1 => Wp (if isStr x = true then (b ρ S1).bind fun y S2 => g x y S2 else .no) Q E) E := Q_bind
theorem Q_isStr {z : Str} {o o' : Out D} : Wp (if isStr (.str z) = true then o else o') Q E = Wp o Q E := rfl
theorem Q_itemsF {g : Fn} : Wp (itemsF g m ρ S) Q E = Wp (m ρ S) (fun d S1 => Wp (match d with
  | .lst xs => g xs S1
  | .tup xs => g xs S1
  | .loc n => match S1[n]? with
    | some (.lst xs) => g xs S1
    | _ => .no
  | _ => .no) Q E) E := Q_bind
theorem Q_sli {l h : MO} : Wp (sli m l h ρ S) Q E = Wp (m ρ S) (fun x S1 => Wp (l ρ S1) (fun lo S2 => Wp (h ρ S2) (fun hi S3 => Wp (slG x lo hi S3) Q E) E) E) E := by
  unfold sli
  rw [Q_bind]
  exact Wp_Q fun _ _ => Q_bind.trans (Wp_Q fun _ _ => Q_bind)
theorem Q_oNo {Q : Option Int → Sto → Prop} : Wp (oNo ρ S) Q E = Q none S := rfl
theorem Q_oSo {Q : Option Int → Sto → Prop} : Wp (oSo m ρ S) Q E = Wp (m ρ S) (fun d S1 => Wp (match d with | .int i => Out.ok (some i) S1 | _ => .no) Q E) E := Q_bind
variable {i j : Int}
theorem Q_add : Wp (addG (.int i) (.int j) S) Q E = Q (.int (i + j)) S := rfl
theorem Q_addI : Wp (addI (.int i) (.int j) S) Q E = Q (.int (i + j)) S := rfl
theorem Q_sub : Wp (subG (.int i) (.int j) S) Q E = Q (.int (i - j)) S := rfl
theorem Q_neg : Wp (negG (.int i) S) Q E = Q (.int (-i)) S := rfl
theorem Q_eqI : Wp (eqG false (.int i) (.int j) S) Q E = Q (.bl (decide (i = j))) S := by
  unfold eqG
  rw [eqD_int]
  simp [Q_ok]
theorem Q_neI : Wp (eqG true (.int i) (.int j) S) Q E = Q (.bl (!decide (i = j))) S := by
  unfold eqG
  rw [eqD_int]
  simp [Q_ok]
theorem Q_lt : Wp (ltG (.int i) (.int j) S) Q E = Q (.bl (decide (i < j))) S := rfl
theorem Q_le : Wp (leG (.int i) (.int j) S) Q E = Q (.bl (decide (i ≤ j))) S := rfl
theorem Q_gt : Wp (gtG (.int i) (.int j) S) Q E = Q (.bl (decide (j < i))) S := rfl
theorem Q_ge : Wp (geG (.int i) (.int j) S) Q E = Q (.bl (decide (j ≤ i))) S := rfl
theorem Q_isN {n : Bool} : Wp (isG n x .non S) Q E = Q (.bl (n ^^ isNon x)) S := rfl
theorem Q_int : Wp (intB [.int i] S) Q E = Q (.int i) S := rfl
theorem Q_intb {b : Bool} : Wp (intB [.bl b] S) Q E = Q (.int (if b = true then 1 else 0)) S := rfl
theorem Q_abs : Wp (absB [.int i] S) Q E = Q (.int (if i < 0 then -i else i)) S := rfl
variable {xs ys : List D}
theorem Q_lenl : Wp (lenB [.lst xs] S) Q E = Q (.int xs.length) S := rfl
theorem Q_lent : Wp (lenB [.tup xs] S) Q E = Q (.int xs.length) S := rfl
theorem Q_tupl : Wp (tupB [.lst xs] S) Q E = Q (.tup xs) S := rfl
theorem Q_tupt : Wp (tupB [.tup xs] S) Q E = Q (.tup xs) S := rfl
theorem Q_listl : Wp (listB [.lst xs] S) Q E = Q (.lst xs) S := rfl
theorem Q_listt : Wp (listB [.tup xs] S) Q E = Q (.lst xs) S := rfl
theorem Q_onlyB {o : Out D} : Wp (onlyB o) Q E = Wp o (fun d S1 => Wp (match d with | .bl b => .ok (.bl b) S1 | _ => .no) Q E) E := Q_bind
theorem Q_notB {o : Out D} : Wp (notB o) Q E = Wp o (fun d S1 => Wp (match d with | .bl b => .ok (.bl (!b)) S1 | _ => .no) Q E) E := Q_bind
end
section
variable {S : Sto} {E : XQ} {Q : D → Sto → Prop}
theorem Q_ixt0 {a : D} {xs : List D} : Wp (ixG (.tup (a :: xs)) (.int 0) S) Q E = Q a S := by
  have e : L2.atI (a :: xs) 0 = some a := by rw [L2.atI, L2.ixN, List.length_cons, if_pos (by decide), if_pos (by first | omega | (simp only [List.length_cons]; omega))]; rfl
  unfold ixG
  simp only [e]
  rfl
theorem Q_ixt1 {a b : D} {xs : List D} : Wp (ixG (.tup (a :: b :: xs)) (.int 1) S) Q E = Q b S := by
  have e : L2.atI (a :: b :: xs) 1 = some b := by rw [L2.atI, L2.ixN, List.length_cons, if_pos (by decide), if_pos (by first | omega | (simp only [List.length_cons]; omega))]; rfl
  unfold ixG
  simp only [e]
  rfl
theorem Q_ixt2 {a b c : D} {xs : List D} : Wp (ixG (.tup (a :: b :: c :: xs)) (.int 2) S) Q E = Q c S := by
  have e : L2.atI (a :: b :: c :: xs) 2 = some c := by rw [L2.atI, L2.ixN, List.length_cons, if_pos (by decide), if_pos (by first | omega | (simp only [List.length_cons]; omega))]; rfl
  unfold ixG
  simp only [e]
  rfl
theorem Q_ixt3 {a b c d : D} {xs : List D} : Wp (ixG (.tup (a :: b :: c :: d :: xs)) (.int 3) S) Q E = Q d S := by
  have e : L2.atI (a :: b :: c :: d :: xs) 3 = some d := by rw [L2.atI, L2.ixN, List.length_cons, if_pos (by decide), if_pos (by first | omega | (simp only [List.length_cons]; omega))]; rfl
  unfold ixG
  simp only [e]
  rfl
theorem Q_ixl0 {a : D} {xs : List D} : Wp (ixG (.lst (a :: xs)) (.int 0) S) Q E = Q a S := by
  have e : L2.atI (a :: xs) 0 = some a := by rw [L2.atI, L2.ixN, List.length_cons, if_pos (by decide), if_pos (by first | omega | (simp only [List.length_cons]; omega))]; rfl
  unfold ixG
  simp only [e]
  rfl
theorem Q_ixl1 {a b : D} {xs : List D} : Wp (ixG (.lst (a :: b :: xs)) (.int 1) S) Q E = Q b S := by
  have e : L2.atI (a :: b :: xs) 1 = some b := by rw [L2.atI, L2.ixN, List.length_cons, if_pos (by decide), if_pos (by first | omega | (simp only [List.length_cons]; omega))]; rfl
  unfold ixG
  simp only [e]
  rfl
theorem Q_ixl2 {a b c : D} {xs : List D} : Wp (ixG (.lst (a :: b :: c :: xs)) (.int 2) S) Q E = Q c S := by
  have e : L2.atI (a :: b :: c :: xs) 2 = some c := by rw [L2.atI, L2.ixN, List.length_cons, if_pos (by decide), if_pos (by first | omega | (simp only [List.length_cons]; omega))]; rfl
  unfold ixG
  simp only [e]
  rfl
theorem Q_ixl3 {a b c d : D} {xs : List D} : Wp (ixG (.lst (a :: b :: c :: d :: xs)) (.int 3) S) Q E = Q d S := by
  have e : L2.atI (a :: b :: c :: d :: xs) 3 = some d := by rw [L2.atI, L2.ixN, List.length_cons, if_pos (by decide), if_pos (by first | omega | (simp only [List.length_cons]; omega))]; rfl
  unfold ixG
  simp only [e]
  rfl
end
section
variable {ρ : Ev} {S : Sto} {N : Ev → Sto → Prop} {R : D → Sto → Prop} {B C : Ev → Sto → Prop} {E : XQ} {a b : MS} {m o : ME} {t : MT} {ms : MA}
theorem Q_seq : Ws (sSeq a b ρ S) N R B C E = Ws (a ρ S) (fun ρ' S' => Ws (b ρ' S') N R B C E) R B C E := by
  unfold sSeq
  match a ρ S with
  | .ok (.nx _) _ => rfl
  | .ok (.rt _) _ => rfl
  | .ok (.bk _) _ => rfl
  | .ok (.ct _) _ => rfl
  | .ex _ _ _ => rfl
  | .no => rfl
theorem Q_sNil : Ws (sNil ρ S) N R B C E = N ρ S := rfl
theorem Q_ret : Ws (sRet m ρ S) N R B C E = Wp (m ρ S) R E := Q_sbind
theorem Q_retN : Ws (sRetN ρ S) N R B C E = R .non S := rfl
theorem Q_exp : Ws (sExp m ρ S) N R B C E = Wp (m ρ S) (fun _ S1 => N ρ S1) E := Q_sbind
theorem Q_set {i : Nat} : Ws (sSet i m ρ S) N R B C E = Wp (m ρ S) (fun d S1 => N (ρ.set i (some d)) S1) E := Q_sbind
theorem Q_if : Ws (sIf t a b ρ S) N R B C E = Wp (t ρ S) (fun c S1 => Ws (if c = true then a ρ S1 else b ρ S1) N R B C E) E := Q_sbind
theorem Q_brk : Ws (sBrk ρ S) N R B C E = B ρ S := rfl
theorem Q_cnt : Ws (sCnt ρ S) N R B C E = C ρ S := rfl
theorem Q_st {o o' : Out Fl} : Ws (if true = true then o else o') N R B C E = Ws o N R B C E := rfl
theorem Q_sf {o o' : Out Fl} : Ws (if false = true then o else o') N R B C E = Ws o' N R B C E := rfl
theorem Q_nx : Ws (.ok (.nx ρ) S) N R B C E = N ρ S := rfl
theorem Q_sT {h : Decidable True} {o o' : Out Fl} : Ws (@ite _ True h o o') N R B C E = Ws o N R B C E := by rw [if_pos trivial]
theorem Q_sF {h : Decidable False} {o o' : Out Fl} : Ws (@ite _ False h o o') N R B C E = Ws o' N R B C E := by rw [if_neg not_false]
theorem ws_dt {p : Prop} [Decidable p] {o o' : Out Fl} (h : p) (q : Ws o N R B C E) : Ws (if decide p = true then o else o') N R B C E := ws_t (decide_eq_true h) q
theorem ws_df {p : Prop} [Decidable p] {o o' : Out Fl} (h : ¬ p) (q : Ws o' N R B C E) : Ws (if decide p = true then o else o') N R B C E := ws_f (decide_eq_false h) q
def _root_.PV.parQ (i j : Nat) (ρ : Ev) (ds : List D) (S1 : Sto) : Out Fl := match ds with
  | [d, e] => .ok (.nx ((ρ.set i (some d)).set j (some e))) S1
  | _ => .no
theorem Q_par {i j : Nat} : Ws (sPar i j ms ρ S) N R B C E = Wp (ms ρ S) (fun ds S1 => Ws (parQ i j ρ ds S1) N R B C E) E := Q_sbind
theorem Q_parQ {i j : Nat} {d e : D} : Ws (parQ i j ρ [d, e] S) N R B C E = N ((ρ.set i (some d)).set j (some e)) S := rfl
def _root_.PV.asgQ (T : Tg) (d : D) (ρ : Ev) (S1 : Sto) : Out Fl := match setT T d ρ with
  | some ρ' => .ok (.nx ρ') S1
  | none => .no
theorem Q_asg {T : Tg} : Ws (sAsg T m ρ S) N R B C E = Wp (m ρ S) (fun d S1 => Ws (asgQ T d ρ S1) N R B C E) E := Q_sbind
theorem Q_asgN {i : Nat} {d : D} : Ws (asgQ (.nm i) d ρ S) N R B C E = N (ρ.set i (some d)) S := rfl
theorem Q_asg2 {i j : Nat} {d e : D} : Ws (asgQ (.tp [i, j]) (.tup [d, e]) ρ S) N R B C E = N ((ρ.set i (some d)).set j (some e)) S := rfl
theorem Q_asg3 {i j l : Nat} {d e f : D} : Ws (asgQ (.tp [i, j, l]) (.tup [d, e, f]) ρ S) N R B C E = N (((ρ.set i (some d)).set j (some e)).set l (some f)) S := rfl
theorem Q_asg4 {i j l n : Nat} {d e f g : D} : Ws (asgQ (.tp [i, j, l, n]) (.tup [d, e, f, g]) ρ S) N R B C E = N ((((ρ.set i (some d)).set j (some e)).set l (some f)).set n (some g)) S := rfl
theorem ws_asgQ {T : Tg} {d : D} {ρ' : Ev} (e : setT T d ρ = some ρ') (q : N ρ' S) : Ws (asgQ T d ρ S) N R B C E := by
  unfold asgQ
  rw [e]
  exact q
def _root_.PV.augQ (i : Nat) (g : G2) (m : ME) (ρ : Ev) (x : D) (S : Sto) : Out Fl := (m ρ S).bind fun y S1 => (g x y S1).bind fun z S2 => .ok (.nx (ρ.set i (some z))) S2
theorem Q_aug {i : Nat} {g : G2} : Ws (sAug i g m ρ S) N R B C E = Wp (v i ρ S) (fun x S' => Ws (augQ i g m ρ x S') N R B C E) E := by
  unfold sAug v
  match ρ[i]? with
  | some (some x) => rfl
  | some none => rfl
  | none => rfl
theorem Q_augQ {i : Nat} {g : G2} {x : D} : Ws (augQ i g m ρ x S) N R B C E = Wp (m ρ S) (fun y S1 => Wp (g x y S1) (fun z S2 => N (ρ.set i (some z)) S2) E) E := by
  unfold augQ
  rw [Q_sbind]
  exact Wp_Q fun _ _ => Q_sbind
variable {Q : List D × Option Nat → Sto → Prop} {d : D}
def _root_.PV.seqQ (d : D) (S1 : Sto) : Out (List D × Option Nat) := match itemsI S1 d with
  | some p => .ok p S1
  | none => .no
theorem Q_iSeq : Wp (iSeq m ρ S) Q E = Wp (m ρ S) (fun d S1 => Wp (seqQ d S1) Q E) E := Q_bind
theorem Q_seqL {xs : List D} : Wp (seqQ (.lst xs) S) Q E = Q (xs, none) S := rfl
theorem Q_seqT {xs : List D} : Wp (seqQ (.tup xs) S) Q E = Q (xs, none) S := rfl
theorem Q_seqS {z : Str} : Wp (seqQ (.str z) S) Q E = Q (signs z, none) S := rfl
def _root_.PV.r1Q (ds : List D) (S1 : Sto) : Out (List D × Option Nat) := match ds with
  | [.int j] => if near62 j = true then .ok (ups 0 j.toNat, none) S1 else .no
  | _ => .no
def _root_.PV.r2Q (ds : List D) (S1 : Sto) : Out (List D × Option Nat) := match ds with
  | [.int i, .int j] => if near62 i = true ∧ near62 j = true then .ok (ups i (j - i).toNat, none) S1 else .no
  | _ => .no
theorem Q_iR1 : Wp (iR1 ms ρ S) Q E = Wp (ms ρ S) (fun ds S1 => Wp (r1Q ds S1) Q E) E := Q_bind
theorem Q_iR2 : Wp (iR2 ms ρ S) Q E = Wp (ms ρ S) (fun ds S1 => Wp (r2Q ds S1) Q E) E := Q_bind
theorem wp_r1Q {j : Int} (h : near62 j = true) (q : Q (ups 0 j.toNat, none) S) : Wp (r1Q [.int j] S) Q E := by
  unfold r1Q
  simp only [h, if_true]
  exact q
theorem wp_r2Q {i j : Int} (h : near62 i = true) (h' : near62 j = true) (q : Q (ups i (j - i).toNat, none) S) : Wp (r2Q [.int i, .int j] S) Q E := by
  unfold r2Q
  simp only [h, h', and_self, if_true]
  exact q
theorem Q_iEn : Wp (iEn ms ρ S) Q E = Wp (ms ρ S) (fun ds S1 => Wp (enD ds S1) Q E) E := Q_bind
theorem Q_iZp : Wp (iZp ms ρ S) Q E = Wp (ms ρ S) (fun ds S1 => Wp (zpD ds S1) Q E) E := Q_bind
theorem Q_zpl {xs ys : List D} : Wp (zpD [.lst xs, .lst ys] S) Q E = Q (zipD xs ys, none) S := rfl
theorem Q_zpt {xs ys : List D} : Wp (zpD [.tup xs, .tup ys] S) Q E = Q (zipD xs ys, none) S := rfl
end
section
variable {α : Type} {E : XQ} {S : Sto} {ρ : Ev} {Q : D → Sto → Prop} {m : ME} {ms : MA}
def _root_.PV.frzQ (d : D) (S1 : Sto) : Out D := match d with
  | .loc n => match S1[n]? with
    | some (.lst xs) => .ok (.lst xs) (S1.set n .dead)
    | _ => .no
  | _ => .no
theorem Q_frz : Wp (frzE m ρ S) Q E = Wp (m ρ S) (fun d S1 => Wp (frzQ d S1) Q E) E := Q_bind
theorem wp_frzQ {n : Nat} {xs : List D} (h : S[n]? = some (.lst xs)) (q : Q (.lst xs) (S.set n .dead)) : Wp (frzQ (.loc n) S) Q E := by
  unfold frzQ
  simp only [h]
  exact q
def _root_.PV.lnsQ (d : D) (S1 : Sto) : Out D := match d with
  | .lst xs => match asStrs xs with
    | some ys => if ys.Nodup ∧ ys.length < 4000 then .ok (.int ys.length) S1 else .no
    | none => .no
  | _ => .no
theorem Q_lns : Wp (lnsE m ρ S) Q E = Wp (m ρ S) (fun d S1 => Wp (lnsQ d S1) Q E) E := Q_bind
theorem Q_dc {kvs : List (Str × Cst)} : Wp (dcE kvs ρ S) Q E = Q (.hob (.dK (L2.mergeK [] (kvV kvs)))) S := rfl
theorem Q_iEs {Q : List D × Option Nat → Sto → Prop} : Wp (iEs ms ρ S) Q E = Wp (ms ρ S) (fun ds S1 => Wp (ensD ds S1) Q E) E := Q_bind
theorem Q_ens {Q : List D × Option Nat → Sto → Prop} {z : Str} : Wp (ensD [.str z] S) Q E = Q (numbered 0 (signs z), none) S := rfl
theorem Q_enl {Q : List D × Option Nat → Sto → Prop} {xs : List D} : Wp (enD [.lst xs] S) Q E = Q (numbered 0 xs, none) S := rfl
theorem Q_ent {Q : List D × Option Nat → Sto → Prop} {xs : List D} : Wp (enD [.tup xs] S) Q E = Q (numbered 0 xs, none) S := rfl
end
section
variable {ρ : Ev} {S : Sto} {N : Ev → Sto → Prop} {R : D → Sto → Prop} {B C : Ev → Sto → Prop} {E : XQ} {m o i : ME}
end
end PVZ
set_option Elab.async false
set_option linter.all false
set_option maxRecDepth 100000
set_option maxHeartbeats 4000000
namespace PV
open PySem
@[irreducible] def Wp {α : Type} (o : Out α) (Q : α → Sto → Prop) (E : XQ) (t : Tag (Q, E) := .mk) : Prop := PVZ.Wp o Q E t
@[irreducible] def Ws (o : Out Fl) (N : Ev → Sto → Prop) (R : D → Sto → Prop) (B C : Ev → Sto → Prop) (E : XQ) (t : Tag (N, R, B, C, E) := .mk) : Prop := PVZ.Ws o N R B C E t
section
variable {α β : Type} {o : Out α} {Q Q' : α → Sto → Prop} {E E' : XQ}
theorem Wp.imp (h : Wp o Q E) (i : ∀ a S, Q a S → Q' a S) (j : ∀ c fs S, E c fs S → E' c fs S) : Wp o Q' E' := by with_unfolding_all exact PVZ.Wp.imp h i j
theorem wp_ok {a : α} {S : Sto} (h : Q a S) : Wp (.ok a S) Q E := by with_unfolding_all exact PVZ.wp_ok h
theorem wp_eq {a : α} {S : Sto} (e : o = .ok a S) (h : Q a S) : Wp o Q E := by with_unfolding_all exact PVZ.wp_eq e h
theorem wp_exq {c : String} {fs : List (String × D)} {S : Sto} (e : o = .ex c fs S) (h : E c fs S) : Wp o Q E := by with_unfolding_all exact PVZ.wp_exq e h
theorem Wp.of {o : Out α} (h : Wp o Q fun _ _ _ => False) : ∃ a S, o = .ok a S ∧ Q a S := by with_unfolding_all exact PVZ.Wp.of h
theorem wp_bind {k : α → Sto → Out β} {R : β → Sto → Prop} (h : Wp o (fun a S => Wp (k a S) R E) E) : Wp (o.bind k) R E := by with_unfolding_all exact PVZ.wp_bind h
theorem ws_bind {k : α → Sto → Out Fl} {N : Ev → Sto → Prop} {R : D → Sto → Prop} {B C : Ev → Sto → Prop} (h : Wp o (fun a S => Ws (k a S) N R B C E) E) : Ws (o.bind k) N R B C E := by with_unfolding_all exact PVZ.ws_bind h
theorem Ws.imp {o : Out Fl} {N N' : Ev → Sto → Prop} {R R' : D → Sto → Prop} {B B' C C' : Ev → Sto → Prop} (h : Ws o N R B C E) (i : ∀ ρ S, N ρ S → N' ρ S) (j : ∀ d S, R d S → R' d S) (b : ∀ ρ S, B ρ S → B' ρ S) (c : ∀ ρ S, C ρ S → C' ρ S) (e : ∀ c fs S, E c fs S → E' c fs S) : Ws o N' R' B' C' E' := by with_unfolding_all exact PVZ.Ws.imp h i j b c e
end
theorem ex1 {α : Type} {p q : α → Prop} {a : α} (h : p a) (h2 : q a) : ∃ a, p a ∧ q a := by with_unfolding_all exact PVZ.ex1 h h2
section
variable {ρ : Ev} {S : Sto} {Q : D → Sto → Prop} {E : XQ} {a b c : ME} {d : D}
variable {t u : MT}
theorem wp_t {α : Type} {x : Bool} {o o' : Out α} {Q : α → Sto → Prop} (h : x = true) (q : Wp o Q E) : Wp (if x = true then o else o') Q E := by with_unfolding_all exact PVZ.wp_t h q
theorem wp_f {α : Type} {x : Bool} {o o' : Out α} {Q : α → Sto → Prop} (h : x = false) (q : Wp o' Q E) : Wp (if x = true then o else o') Q E := by with_unfolding_all exact PVZ.wp_f h q
theorem wp_ofLen {n : Nat} {F : Fn} {ds : List D} (h : ds.length = n) (q : Wp (F ds S) Q E) : Wp (ofLen n F ds S) Q E := by with_unfolding_all exact PVZ.wp_ofLen h q
theorem wp_kw {idx : List Nat} {dds ds es : List D} {F : Fn} (h : pickL idx (ds ++ dds) = es) (q : Wp (F es S) Q E) : Wp (kwF idx dds F ds S) Q E := by with_unfolding_all exact PVZ.wp_kw h q
theorem wp_mul {i j : Int} (h : mulOk i j = true) (q : Q (.int (i * j)) S) : Wp (mulG (.int i) (.int j) S) Q E := by with_unfolding_all exact PVZ.wp_mul h q
theorem wp_fdiv {i j : Int} (h : divOk j = true) (q : Q (.int (i / j)) S) : Wp (fdivG (.int i) (.int j) S) Q E := by with_unfolding_all exact PVZ.wp_fdiv h q
theorem wp_mod {i j : Int} (h : 0 < j) (q : Q (.int (i % j)) S) : Wp (modG (.int i) (.int j) S) Q E := by with_unfolding_all exact PVZ.wp_mod h q
theorem wp_pow {i j : Int} (h : powOk i j = true) (q : Q (.int (i ^ j.toNat)) S) : Wp (powG (.int i) (.int j) S) Q E := by with_unfolding_all exact PVZ.wp_pow h q
theorem wp_eqv {x y : D} {e n : Bool} (h : eqD x y = some e) (q : Q (.bl (n ^^ e)) S) : Wp (eqG n x y S) Q E := by with_unfolding_all exact PVZ.wp_eqv h q
theorem wp_ixl {xs : List D} {i : Int} {x : D} (h : L2.atI xs i = some x) (q : Q x S) : Wp (ixG (.lst xs) (.int i) S) Q E := by with_unfolding_all exact PVZ.wp_ixl h q
theorem wp_fld {cs : List String} {f : String} {x y : D} {c : String} {fs : List (String × D)} (h1 : insOf S x = some (c, fs)) (h2 : cs.contains c = true) (h3 : fs.lookup f = some y) (q : Q y S) : Wp (fldG cs f x S) Q E := by with_unfolding_all exact PVZ.wp_fld h1 h2 h3 q
theorem wp_mkF {c : String} {F : Fn} {ds : List D} (h : Wp (F (.loc S.length :: ds) (S ++ [.ins c []])) (fun d S2 => d = .non ∧ ∃ fs, S2[S.length]? = some (.ins c fs) ∧ Wp (gcO S (.ok (.obj c fs) (S2.set S.length .dead))) Q E) (fun x fs S2 => Wp (gcO S (.ex x fs S2)) Q E)) : Wp (mkF c F ds S) Q E := by with_unfolding_all exact PVZ.wp_mkF h
theorem wp_mkF_of {c : String} {F : Fn} {ds : List D} {fs : List (String × D)} (hF : F (.loc S.length :: ds) (S ++ [Cell.ins c []]) = .ok .non ((S ++ [Cell.ins c []]).set S.length (Cell.ins c fs))) (hd : belowf S.length fs = true) (q : Q (.obj c fs) S) : Wp (mkF c F ds S) Q E := by with_unfolding_all exact PVZ.wp_mkF_of hF hd q
theorem mkF_of {c : String} {F : Fn} {ds : List D} {fs : List (String × D)} (hF : F (.loc S.length :: ds) (S ++ [Cell.ins c []]) = .ok .non ((S ++ [Cell.ins c []]).set S.length (Cell.ins c fs))) (hd : belowf S.length fs = true) : mkF c F ds S = .ok (.obj c fs) S := by with_unfolding_all exact PVZ.mkF_of hF hd
theorem wp_isi {ans : Ty → Option Bool} {cls : D → Bool} {ds : List D} {b : Bool} (h : isiF ans cls ds S = .ok (.bl b) S) (q : Q (.bl b) S) : Wp (isiF ans cls ds S) Q E := by with_unfolding_all exact PVZ.wp_isi h q
theorem wp_isiA {Ts cs : List String} (h : Wp (a ρ S) (fun x S1 => ∃ t, tyD S1 x = some t ∧ (match t with | .b n => Q (.bl (Ts.any fun T => subT n T)) S1 | .c n => cs.contains n = true ∧ Q (.bl false) S1)) E) : Wp (isiA Ts cs a ρ S) Q E := by with_unfolding_all exact PVZ.wp_isiA h
end
section
variable {ρ : Ev} {S : Sto} {N : Ev → Sto → Prop} {R : D → Sto → Prop} {B C : Ev → Sto → Prop} {E : XQ} {a b : MS} {m o : ME} {t : MT}
theorem ws_seq (h : Ws (a ρ S) (fun ρ' S' => Ws (b ρ' S') N R B C E) R B C E) : Ws (sSeq a b ρ S) N R B C E := by with_unfolding_all exact PVZ.ws_seq h
theorem ws_nil (q : N ρ S) : Ws (sNil ρ S) N R B C E := by with_unfolding_all exact PVZ.ws_nil q
theorem ws_t {x : Bool} {o o' : Out Fl} (h : x = true) (q : Ws o N R B C E) : Ws (if x = true then o else o') N R B C E := by with_unfolding_all exact PVZ.ws_t h q
theorem ws_f {x : Bool} {o o' : Out Fl} (h : x = false) (q : Ws o' N R B C E) : Ws (if x = true then o else o') N R B C E := by with_unfolding_all exact PVZ.ws_f h q
theorem ws_fld {cs : List String} {f : String} (h : Wp (m ρ S) (fun y S1 => Wp (o ρ S1) (fun x S2 => ∃ n c fs, x = .loc n ∧ S2[n]? = some (.ins c fs) ∧ (cs.contains c = true ∧ fs.length < 1000) ∧ N ρ (S2.set n (.ins c (putD f y fs)))) E) E) : Ws (sFldS cs f o m ρ S) N R B C E := by with_unfolding_all exact PVZ.ws_fld h
theorem ws_sub {i : ME} (h : Wp (m ρ S) (fun y S1 => Wp (o ρ S1) (fun x S2 => Wp (i ρ S2) (fun k S3 => ∃ n j xs l, x = .loc n ∧ k = .int j ∧ S3[n]? = some (.lst xs) ∧ L2.ixN xs.length j = some l ∧ N ρ (S3.set n (.lst (xs.set l y)))) E) E) E) : Ws (sSub o i m ρ S) N R B C E := by with_unfolding_all exact PVZ.ws_sub h
theorem ws_forL {T : Tg} {g : Option Nat} {all : List D} (I : Nat → Ev → Sto → Prop) (hg : ∀ j ρ S, I j ρ S → Gd g all S) : ∀ (xs : List D) (i : Nat) (ρ : Ev) (S : Sto), (∀ j x, xs[j]? = some x → ∀ ρ S, I (i + j) ρ S → ∃ ρ1, setT T x ρ = some ρ1 ∧ Ws (b ρ1 S) (I (i + j + 1)) R N (I (i + j + 1)) E) → (∀ ρ S, I (i + xs.length) ρ S → N ρ S) → I i ρ S → Ws (forL T b g all xs ρ S) N R B C E := by with_unfolding_all exact PVZ.ws_forL I hg
theorem ws_for {T : Tg} {it : MI} (I : Nat → Ev → Sto → Prop) (h : Wp (it ρ S) (fun p S1 => (∀ j ρ S, I j ρ S → Gd p.2 p.1 S) ∧ I 0 ρ S1 ∧ (∀ j x, p.1[j]? = some x → ∀ ρ S, I j ρ S → ∃ ρ1, setT T x ρ = some ρ1 ∧ Ws (b ρ1 S) (I (j + 1)) R N (I (j + 1)) E) ∧ (∀ ρ S, I p.1.length ρ S → N ρ S)) E) : Ws (sFor T it b ρ S) N R B C E := by with_unfolding_all exact PVZ.ws_for I h
theorem ws_whl (I : Nat → Ev → Sto → Prop) (n : Nat) (h0 : I n ρ S) (hs : ∀ m ρ S, I m ρ S → Wp (t ρ S) (fun c S1 => (c = true → Ws (b ρ S1) (fun ρ' S' => ∃ m', m' < m ∧ I m' ρ' S') R N (fun ρ' S' => ∃ m', m' < m ∧ I m' ρ' S') E) ∧ (c = false → N ρ S1)) E) : Ws (sWhl t b ρ S) N R B C E := by with_unfolding_all exact PVZ.ws_whl I n h0 hs
end
section
variable {S : Sto} {Q : D → Sto → Prop} {E : XQ}
def Gq (S : Sto) (Q : D → Sto → Prop) (E : XQ) (d : D) (S' : Sto) : Prop := Wp (gcO S (.ok d S')) Q E
def Gx (S : Sto) (Q : D → Sto → Prop) (E : XQ) : XQ := fun c fs S' => Wp (gcO S (.ex c fs S')) Q E
theorem gq_len {d : D} {S' : Sto} (h : S'.length = S.length) (q : Q d S') : Gq S Q E d S' := by with_unfolding_all exact PVZ.gq_len h q
theorem gq_same {d : D} (q : Q d S) : Gq S Q E d S := by with_unfolding_all exact PVZ.gq_same q
theorem wp_dfn {np n : Nat} {b : MS} {ds : List D} (hl : ds.length = np) (h : Ws (b (ds.map some ++ List.replicate (n - np) none) S) (fun _ S' => Gq S Q E .non S') (Gq S Q E) (fun _ _ => False) (fun _ _ => False) (Gx S Q E)) : Wp (dfn np n b ds S) Q E := by with_unfolding_all exact PVZ.wp_dfn hl h
theorem wp_dfnV {np n : Nat} {b : MS} {ds : List D} (hl : np ≤ ds.length) (hl2 : ds.length ≤ 1000) (h : Wp (dfn (np + 1) n b (ds.take np ++ [.tup (ds.drop np)]) S) Q E) : Wp (dfnV np n b ds S) Q E := by with_unfolding_all exact PVZ.wp_dfnV hl hl2 h
end
theorem Wp_Q {α : Type} {o : Out α} {Q Q' : α → Sto → Prop} {E : XQ} (h : ∀ a S, Q a S = Q' a S) : Wp o Q E = Wp o Q' E := by with_unfolding_all exact PVZ.Wp_Q h
section
variable {α β : Type} {E : XQ} {S : Sto} {ρ : Ev}
theorem Q_bind {o : Out α} {k : α → Sto → Out β} {Q : β → Sto → Prop} : Wp (o.bind k) Q E = Wp o (fun a S => Wp (k a S) Q E) E := by with_unfolding_all exact PVZ.Q_bind
theorem Q_sbind {o : Out α} {k : α → Sto → Out Fl} {N : Ev → Sto → Prop} {R : D → Sto → Prop} {B C : Ev → Sto → Prop} : Ws (o.bind k) N R B C E = Wp o (fun a S => Ws (k a S) N R B C E) E := by with_unfolding_all exact PVZ.Q_sbind
theorem Q_ok {a : α} {Q : α → Sto → Prop} : Wp (.ok a S) Q E = Q a S := by with_unfolding_all exact PVZ.Q_ok
theorem Q_ex {c : String} {fs : List (String × D)} {Q : α → Sto → Prop} : Wp (.ex c fs S) Q E = E c fs S := by with_unfolding_all exact PVZ.Q_ex
variable {Q : D → Sto → Prop} {d x : D} {o : Option D} {a b c m : ME} {ms : MA} {t u : MT}
theorem Q_v0 : Wp (v 0 (some d :: ρ) S) Q E = Q d S := by with_unfolding_all exact PVZ.Q_v0
theorem Q_vs {n : Nat} : Wp (v (n + 1) (o :: ρ) S) Q E = Wp (v n ρ S) Q E := by with_unfolding_all exact PVZ.Q_vs
theorem Q_k : Wp (k d ρ S) Q E = Q d S := by with_unfolding_all exact PVZ.Q_k
theorem Q_bin {g : G2} : Wp (bin g a b ρ S) Q E = Wp (a ρ S) (fun x S1 => Wp (b ρ S1) (fun y S2 => Wp (g x y S2) Q E) E) E := by with_unfolding_all exact PVZ.Q_bin
theorem Q_una {g : G1} : Wp (una g a ρ S) Q E = Wp (a ρ S) (fun x S1 => Wp (g x S1) Q E) E := by with_unfolding_all exact PVZ.Q_una
theorem Q_cal {F : Fn} : Wp (cal F ms ρ S) Q E = Wp (ms ρ S) (fun ds S1 => Wp (F ds S1) Q E) E := by with_unfolding_all exact PVZ.Q_cal
theorem Q_nil {Q : List D → Sto → Prop} : Wp (aNil ρ S) Q E = Q [] S := by with_unfolding_all exact PVZ.Q_nil
theorem Q_cons {Q : List D → Sto → Prop} : Wp (aCons a ms ρ S) Q E = Wp (a ρ S) (fun x S1 => Wp (ms ρ S1) (fun ds S2 => Q (x :: ds) S2) E) E := by with_unfolding_all exact PVZ.Q_cons
theorem Q_star {Q : List D → Sto → Prop} : Wp (aStar a ms ρ S) Q E = Wp (a ρ S) (fun x S1 => Wp (match x with
  | .lst xs => (ms ρ S1).bind fun ds S2 => .ok (xs ++ ds) S2
  | .tup xs => (ms ρ S1).bind fun ds S2 => .ok (xs ++ ds) S2
  | .loc n => match S1[n]? with
    | some (.lst xs) => (ms ρ S1).bind fun ds S2 => .ok (xs ++ ds) S2
    | _ => .no
  | _ => .no) Q E) E := by with_unfolding_all exact PVZ.Q_star
variable {P : Bool → Sto → Prop}
theorem Q_tst : Wp (tst a ρ S) P E = Wp (a ρ S) (fun d S1 => Wp (match d with | .bl b => Out.ok b S1 | _ => .no) P E) E := by with_unfolding_all exact PVZ.Q_tst
theorem Q_tru : Wp (tru a ρ S) P E = Wp (a ρ S) (fun d S1 => Wp (match truD d with | some b => Out.ok b S1 | none => .no) P E) E := by with_unfolding_all exact PVZ.Q_tru
theorem Q_no : Wp (tNo t ρ S) P E = Wp (t ρ S) (fun c S1 => P (!c) S1) E := by with_unfolding_all exact PVZ.Q_no
theorem Q_an : Wp (tAn t u ρ S) P E = Wp (t ρ S) (fun c S1 => Wp (if c = true then u ρ S1 else .ok false S1) P E) E := by with_unfolding_all exact PVZ.Q_an
theorem Q_or : Wp (tOr t u ρ S) P E = Wp (t ρ S) (fun c S1 => Wp (if c = true then .ok true S1 else u ρ S1) P E) E := by with_unfolding_all exact PVZ.Q_or
theorem Q_ifE : Wp (ifE t a b ρ S) Q E = Wp (t ρ S) (fun c S1 => Wp (if c = true then a ρ S1 else b ρ S1) Q E) E := by with_unfolding_all exact PVZ.Q_ifE
theorem Q_anE : Wp (anE a b ρ S) Q E = Wp (a ρ S) (fun d S1 => Wp (anD b ρ d S1) Q E) E := by with_unfolding_all exact PVZ.Q_anE
theorem Q_orE : Wp (orE a b ρ S) Q E = Wp (a ρ S) (fun d S1 => Wp (orD b ρ d S1) Q E) E := by with_unfolding_all exact PVZ.Q_orE
theorem Q_anD {c : Bool} : Wp (anD b ρ (.bl c) S) Q E = Wp (if c = true then b ρ S else .ok (.bl false) S) Q E := by with_unfolding_all exact PVZ.Q_anD
theorem Q_orD {c : Bool} : Wp (orD b ρ (.bl c) S) Q E = Wp (if c = true then .ok (.bl true) S else b ρ S) Q E := by with_unfolding_all exact PVZ.Q_orD
theorem Q_noE : Wp (noE a ρ S) Q E = Wp (a ρ S) (fun d S1 => Wp (match d with | .bl b => .ok (.bl (!b)) S1 | _ => .no) Q E) E := by with_unfolding_all exact PVZ.Q_noE
theorem Q_chn {g g' : G2} : Wp (chn g g' a b c ρ S) Q E = Wp (a ρ S) (fun x S1 => Wp (b ρ S1) (fun y S2 => Wp (g x y S2) (fun z S3 => Wp (chD g' y c ρ z S3) Q E) E) E) E := by with_unfolding_all exact PVZ.Q_chn
theorem Q_chD {g' : G2} {y : D} {t : Bool} : Wp (chD g' y c ρ (.bl t) S) Q E = Wp (if t = true then (c ρ S).bind fun u S4 => g' y u S4 else .ok (.bl false) S) Q E := by with_unfolding_all exact PVZ.Q_chD
theorem Q_t {o o' : Out α} {Q : α → Sto → Prop} : Wp (if true = true then o else o') Q E = Wp o Q E := by with_unfolding_all exact PVZ.Q_t
theorem Q_f {o o' : Out α} {Q : α → Sto → Prop} : Wp (if false = true then o else o') Q E = Wp o' Q E := by with_unfolding_all exact PVZ.Q_f
theorem Q_T {h : Decidable True} {o o' : Out α} {Q : α → Sto → Prop} : Wp (@ite _ True h o o') Q E = Wp o Q E := by with_unfolding_all exact PVZ.Q_T
theorem Q_F {h : Decidable False} {o o' : Out α} {Q : α → Sto → Prop} : Wp (@ite _ False h o o') Q E = Wp o' Q E := by with_unfolding_all exact PVZ.Q_F
theorem wp_dt {p : Prop} [Decidable p] {o o' : Out α} {Q : α → Sto → Prop} (h : p) (q : Wp o Q E) : Wp (if decide p = true then o else o') Q E := by with_unfolding_all exact PVZ.wp_dt h q
theorem wp_df {p : Prop} [Decidable p] {o o' : Out α} {Q : α → Sto → Prop} (h : ¬ p) (q : Wp o' Q E) : Wp (if decide p = true then o else o') Q E := by with_unfolding_all exact PVZ.wp_df h q
theorem Q_tup : Wp (tupE ms ρ S) Q E = Wp (ms ρ S) (fun ds S1 => Wp (tupQ ds S1) Q E) E := by with_unfolding_all exact PVZ.Q_tup
theorem Q_lst : Wp (lstE ms ρ S) Q E = Wp (ms ρ S) (fun ds S1 => Wp (lstQ ds S1) Q E) E := by with_unfolding_all exact PVZ.Q_lst
theorem Q_lstM : Wp (lstM ms ρ S) Q E = Wp (ms ρ S) (fun ds S1 => Wp (lstMQ ds S1) Q E) E := by with_unfolding_all exact PVZ.Q_lstM
theorem wp_tupQ {ds : List D} (h : ds.length ≤ 1000) (q : Q (.tup ds) S) : Wp (tupQ ds S) Q E := by with_unfolding_all exact PVZ.wp_tupQ h q
theorem wp_lstQ {ds : List D} (h : ds.length ≤ 1000) (q : Q (.lst ds) S) : Wp (lstQ ds S) Q E := by with_unfolding_all exact PVZ.wp_lstQ h q
theorem wp_lstMQ {ds : List D} (h : ds.length ≤ 1000) (q : Q (.loc S.length) (S ++ [.lst ds])) : Wp (lstMQ ds S) Q E := by with_unfolding_all exact PVZ.wp_lstMQ h q
theorem Q_cm {C : String} {F : Fn} : Wp (cmE C F (k (.cls C)) ms ρ S) Q E = Wp (ms ρ S) (fun ds S2 => Wp (F (.cls C :: ds) S2) Q E) E := by with_unfolding_all exact PVZ.Q_cm
theorem Q_sm {C : String} {F : Fn} : Wp (smE C F (k (.cls C)) ms ρ S) Q E = Wp (ms ρ S) (fun ds S2 => Wp (F ds S2) Q E) E := by with_unfolding_all exact PVZ.Q_sm
theorem Q_mt {τ : List (String × Fn)} {n : String} : Wp (mtO τ n a ms ρ S) Q E = Wp (a ρ S) (fun x S1 => Wp (mtQ τ n ms ρ x S1) Q E) E := by with_unfolding_all exact PVZ.Q_mt
theorem wp_mtQ {τ : List (String × Fn)} {n C : String} {fs : List (String × D)} {F : Fn} (e1 : insOf S x = some (C, fs)) (e2 : τ.lookup C = some F) (e3 : fs.lookup n = none) (q : Wp (ms ρ S) (fun ds S2 => Wp (F (x :: ds) S2) Q E) E) : Wp (mtQ τ n ms ρ x S) Q E := by with_unfolding_all exact PVZ.wp_mtQ e1 e2 e3 q
theorem Q_mtK {C n : String} {l : Nat} {F : Fn} : Wp (mtK C n l F a ms ρ S) Q E = Wp (a ρ S) (fun x S1 => Wp (mtKQ C n l F ms ρ x S1) Q E) E := by with_unfolding_all exact PVZ.Q_mtK
theorem wp_mtKQ {n C : String} {l : Nat} {fs : List (String × D)} {F : Fn} (e1 : insOf S x = some (C, fs)) (e3 : fs.lookup n = none) (q : Wp (ms ρ S) (fun ds S2 => ds.length = l ∧ Wp (F (x :: ds) S2) Q E) E) : Wp (mtKQ C n l F ms ρ x S) Q E := by with_unfolding_all exact PVZ.wp_mtKQ e1 e3 q
theorem Q_mthL {g : D → List D → Sto → Out D} : Wp (mthL g a ms ρ S) Q E = Wp (a ρ S) (fun x S1 => Wp (mthQ g ms ρ x S1) Q E) E := by with_unfolding_all exact PVZ.Q_mthL
theorem wp_mthQ {g : D → List D → Sto → Out D} {n : Nat} {xs : List D} (h : S[n]? = some (.lst xs)) (q : Wp (ms ρ S) (fun ds S2 => Wp (g (.loc n) ds S2) Q E) E) : Wp (mthQ g ms ρ (.loc n) S) Q E := by with_unfolding_all exact PVZ.wp_mthQ h q
theorem Q_mthS {g : G2} : Wp (mthS g a b ρ S) Q E = Wp (a ρ S) (fun x S1 => Wp (if isStr x = true then (b ρ S1).bind fun y S2 => g x y S2 else .no) Q E) E := by with_unfolding_all exact PVZ.Q_mthS
theorem Q_isStr {z : Str} {o o' : Out D} : Wp (if isStr (.str z) = true then o else o') Q E = Wp o Q E := by with_unfolding_all exact PVZ.Q_isStr
theorem Q_itemsF {g : Fn} : Wp (itemsF g m ρ S) Q E = Wp (m ρ S) (fun d S1 => Wp (match d with
  | .lst xs => g xs S1
  | .tup xs => g xs S1
  | .loc n => match S1[n]? with
    | some (.lst xs) => g xs S1
    | _ => .no
  | _ => .no) Q E) E := by with_unfolding_all exact PVZ.Q_itemsF
theorem Q_sli {l h : MO} : Wp (sli m l h ρ S) Q E = Wp (m ρ S) (fun x S1 => Wp (l ρ S1) (fun lo S2 => Wp (h ρ S2) (fun hi S3 => Wp (slG x lo hi S3) Q E) E) E) E := by with_unfolding_all exact PVZ.Q_sli
theorem Q_oNo {Q : Option Int → Sto → Prop} : Wp (oNo ρ S) Q E = Q none S := by with_unfolding_all exact PVZ.Q_oNo
theorem Q_oSo {Q : Option Int → Sto → Prop} : Wp (oSo m ρ S) Q E = Wp (m ρ S) (fun d S1 => Wp (match d with | .int i => Out.ok (some i) S1 | _ => .no) Q E) E := by with_unfolding_all exact PVZ.Q_oSo
variable {i j : Int}
theorem Q_add : Wp (addG (.int i) (.int j) S) Q E = Q (.int (i + j)) S := by with_unfolding_all exact PVZ.Q_add
theorem Q_addI : Wp (addI (.int i) (.int j) S) Q E = Q (.int (i + j)) S := by with_unfolding_all exact PVZ.Q_addI
theorem Q_sub : Wp (subG (.int i) (.int j) S) Q E = Q (.int (i - j)) S := by with_unfolding_all exact PVZ.Q_sub
theorem Q_neg : Wp (negG (.int i) S) Q E = Q (.int (-i)) S := by with_unfolding_all exact PVZ.Q_neg
theorem Q_eqI : Wp (eqG false (.int i) (.int j) S) Q E = Q (.bl (decide (i = j))) S := by with_unfolding_all exact PVZ.Q_eqI
theorem Q_neI : Wp (eqG true (.int i) (.int j) S) Q E = Q (.bl (!decide (i = j))) S := by with_unfolding_all exact PVZ.Q_neI
theorem Q_lt : Wp (ltG (.int i) (.int j) S) Q E = Q (.bl (decide (i < j))) S := by with_unfolding_all exact PVZ.Q_lt
theorem Q_le : Wp (leG (.int i) (.int j) S) Q E = Q (.bl (decide (i ≤ j))) S := by with_unfolding_all exact PVZ.Q_le
theorem Q_gt : Wp (gtG (.int i) (.int j) S) Q E = Q (.bl (decide (j < i))) S := by with_unfolding_all exact PVZ.Q_gt
theorem Q_ge : Wp (geG (.int i) (.int j) S) Q E = Q (.bl (decide (j ≤ i))) S := by with_unfolding_all exact PVZ.Q_ge
theorem Q_isN {n : Bool} : Wp (isG n x .non S) Q E = Q (.bl (n ^^ isNon x)) S := by with_unfolding_all exact PVZ.Q_isN
theorem Q_int : Wp (intB [.int i] S) Q E = Q (.int i) S := by with_unfolding_all exact PVZ.Q_int
theorem Q_intb {b : Bool} : Wp (intB [.bl b] S) Q E = Q (.int (if b = true then 1 else 0)) S := by with_unfolding_all exact PVZ.Q_intb
theorem Q_abs : Wp (absB [.int i] S) Q E = Q (.int (if i < 0 then -i else i)) S := by with_unfolding_all exact PVZ.Q_abs
variable {xs ys : List D}
theorem Q_lenl : Wp (lenB [.lst xs] S) Q E = Q (.int xs.length) S := by with_unfolding_all exact PVZ.Q_lenl
theorem Q_lent : Wp (lenB [.tup xs] S) Q E = Q (.int xs.length) S := by with_unfolding_all exact PVZ.Q_lent
theorem Q_tupl : Wp (tupB [.lst xs] S) Q E = Q (.tup xs) S := by with_unfolding_all exact PVZ.Q_tupl
theorem Q_tupt : Wp (tupB [.tup xs] S) Q E = Q (.tup xs) S := by with_unfolding_all exact PVZ.Q_tupt
theorem Q_listl : Wp (listB [.lst xs] S) Q E = Q (.lst xs) S := by with_unfolding_all exact PVZ.Q_listl
theorem Q_listt : Wp (listB [.tup xs] S) Q E = Q (.lst xs) S := by with_unfolding_all exact PVZ.Q_listt
theorem Q_onlyB {o : Out D} : Wp (onlyB o) Q E = Wp o (fun d S1 => Wp (match d with | .bl b => .ok (.bl b) S1 | _ => .no) Q E) E := by with_unfolding_all exact PVZ.Q_onlyB
theorem Q_notB {o : Out D} : Wp (notB o) Q E = Wp o (fun d S1 => Wp (match d with | .bl b => .ok (.bl (!b)) S1 | _ => .no) Q E) E := by with_unfolding_all exact PVZ.Q_notB
end
section
variable {S : Sto} {E : XQ} {Q : D → Sto → Prop}
theorem Q_ixt0 {a : D} {xs : List D} : Wp (ixG (.tup (a :: xs)) (.int 0) S) Q E = Q a S := by with_unfolding_all exact PVZ.Q_ixt0
theorem Q_ixt1 {a b : D} {xs : List D} : Wp (ixG (.tup (a :: b :: xs)) (.int 1) S) Q E = Q b S := by with_unfolding_all exact PVZ.Q_ixt1
theorem Q_ixt2 {a b c : D} {xs : List D} : Wp (ixG (.tup (a :: b :: c :: xs)) (.int 2) S) Q E = Q c S := by with_unfolding_all exact PVZ.Q_ixt2
theorem Q_ixt3 {a b c d : D} {xs : List D} : Wp (ixG (.tup (a :: b :: c :: d :: xs)) (.int 3) S) Q E = Q d S := by with_unfolding_all exact PVZ.Q_ixt3
theorem Q_ixl0 {a : D} {xs : List D} : Wp (ixG (.lst (a :: xs)) (.int 0) S) Q E = Q a S := by with_unfolding_all exact PVZ.Q_ixl0
theorem Q_ixl1 {a b : D} {xs : List D} : Wp (ixG (.lst (a :: b :: xs)) (.int 1) S) Q E = Q b S := by with_unfolding_all exact PVZ.Q_ixl1
theorem Q_ixl2 {a b c : D} {xs : List D} : Wp (ixG (.lst (a :: b :: c :: xs)) (.int 2) S) Q E = Q c S := by with_unfolding_all exact PVZ.Q_ixl2
theorem Q_ixl3 {a b c d : D} {xs : List D} : Wp (ixG (.lst (a :: b :: c :: d :: xs)) (.int 3) S) Q E = Q d S := by with_unfolding_all exact PVZ.Q_ixl3
end
section
variable {ρ : Ev} {S : Sto} {N : Ev → Sto → Prop} {R : D → Sto → Prop} {B C : Ev → Sto → Prop} {E : XQ} {a b : MS} {m o : ME} {t : MT} {ms : MA}
theorem Q_seq : Ws (sSeq a b ρ S) N R B C E = Ws (a ρ S) (fun ρ' S' => Ws (b ρ' S') N R B C E) R B C E := by with_unfolding_all exact PVZ.Q_seq
theorem Q_sNil : Ws (sNil ρ S) N R B C E = N ρ S := by with_unfolding_all exact PVZ.Q_sNil
theorem Q_ret : Ws (sRet m ρ S) N R B C E = Wp (m ρ S) R E := by with_unfolding_all exact PVZ.Q_ret
theorem Q_retN : Ws (sRetN ρ S) N R B C E = R .non S := by with_unfolding_all exact PVZ.Q_retN
theorem Q_exp : Ws (sExp m ρ S) N R B C E = Wp (m ρ S) (fun _ S1 => N ρ S1) E := by with_unfolding_all exact PVZ.Q_exp
theorem Q_set {i : Nat} : Ws (sSet i m ρ S) N R B C E = Wp (m ρ S) (fun d S1 => N (ρ.set i (some d)) S1) E := by with_unfolding_all exact PVZ.Q_set
theorem Q_if : Ws (sIf t a b ρ S) N R B C E = Wp (t ρ S) (fun c S1 => Ws (if c = true then a ρ S1 else b ρ S1) N R B C E) E := by with_unfolding_all exact PVZ.Q_if
theorem Q_brk : Ws (sBrk ρ S) N R B C E = B ρ S := by with_unfolding_all exact PVZ.Q_brk
theorem Q_cnt : Ws (sCnt ρ S) N R B C E = C ρ S := by with_unfolding_all exact PVZ.Q_cnt
theorem Q_st {o o' : Out Fl} : Ws (if true = true then o else o') N R B C E = Ws o N R B C E := by with_unfolding_all exact PVZ.Q_st
theorem Q_sf {o o' : Out Fl} : Ws (if false = true then o else o') N R B C E = Ws o' N R B C E := by with_unfolding_all exact PVZ.Q_sf
theorem Q_nx : Ws (.ok (.nx ρ) S) N R B C E = N ρ S := by with_unfolding_all exact PVZ.Q_nx
theorem Q_sT {h : Decidable True} {o o' : Out Fl} : Ws (@ite _ True h o o') N R B C E = Ws o N R B C E := by with_unfolding_all exact PVZ.Q_sT
theorem Q_sF {h : Decidable False} {o o' : Out Fl} : Ws (@ite _ False h o o') N R B C E = Ws o' N R B C E := by with_unfolding_all exact PVZ.Q_sF
theorem ws_dt {p : Prop} [Decidable p] {o o' : Out Fl} (h : p) (q : Ws o N R B C E) : Ws (if decide p = true then o else o') N R B C E := by with_unfolding_all exact PVZ.ws_dt h q
theorem ws_df {p : Prop} [Decidable p] {o o' : Out Fl} (h : ¬ p) (q : Ws o' N R B C E) : Ws (if decide p = true then o else o') N R B C E := by with_unfolding_all exact PVZ.ws_df h q
theorem Q_par {i j : Nat} : Ws (sPar i j ms ρ S) N R B C E = Wp (ms ρ S) (fun ds S1 => Ws (parQ i j ρ ds S1) N R B C E) E := by with_unfolding_all exact PVZ.Q_par
theorem Q_parQ {i j : Nat} {d e : D} : Ws (parQ i j ρ [d, e] S) N R B C E = N ((ρ.set i (some d)).set j (some e)) S := by with_unfolding_all exact PVZ.Q_parQ
theorem Q_asg {T : Tg} : Ws (sAsg T m ρ S) N R B C E = Wp (m ρ S) (fun d S1 => Ws (asgQ T d ρ S1) N R B C E) E := by with_unfolding_all exact PVZ.Q_asg
theorem Q_asgN {i : Nat} {d : D} : Ws (asgQ (.nm i) d ρ S) N R B C E = N (ρ.set i (some d)) S := by with_unfolding_all exact PVZ.Q_asgN
theorem Q_asg2 {i j : Nat} {d e : D} : Ws (asgQ (.tp [i, j]) (.tup [d, e]) ρ S) N R B C E = N ((ρ.set i (some d)).set j (some e)) S := by with_unfolding_all exact PVZ.Q_asg2
theorem Q_asg3 {i j l : Nat} {d e f : D} : Ws (asgQ (.tp [i, j, l]) (.tup [d, e, f]) ρ S) N R B C E = N (((ρ.set i (some d)).set j (some e)).set l (some f)) S := by with_unfolding_all exact PVZ.Q_asg3
theorem Q_asg4 {i j l n : Nat} {d e f g : D} : Ws (asgQ (.tp [i, j, l, n]) (.tup [d, e, f, g]) ρ S) N R B C E = N ((((ρ.set i (some d)).set j (some e)).set l (some f)).set n (some g)) S := by with_unfolding_all exact PVZ.Q_asg4
theorem ws_asgQ {T : Tg} {d : D} {ρ' : Ev} (e : setT T d ρ = some ρ') (q : N ρ' S) : Ws (asgQ T d ρ S) N R B C E := by with_unfolding_all exact PVZ.ws_asgQ e q
theorem Q_aug {i : Nat} {g : G2} : Ws (sAug i g m ρ S) N R B C E = Wp (v i ρ S) (fun x S' => Ws (augQ i g m ρ x S') N R B C E) E := by with_unfolding_all exact PVZ.Q_aug
theorem Q_augQ {i : Nat} {g : G2} {x : D} : Ws (augQ i g m ρ x S) N R B C E = Wp (m ρ S) (fun y S1 => Wp (g x y S1) (fun z S2 => N (ρ.set i (some z)) S2) E) E := by with_unfolding_all exact PVZ.Q_augQ
variable {Q : List D × Option Nat → Sto → Prop} {d : D}
theorem Q_iSeq : Wp (iSeq m ρ S) Q E = Wp (m ρ S) (fun d S1 => Wp (seqQ d S1) Q E) E := by with_unfolding_all exact PVZ.Q_iSeq
theorem Q_seqL {xs : List D} : Wp (seqQ (.lst xs) S) Q E = Q (xs, none) S := by with_unfolding_all exact PVZ.Q_seqL
theorem Q_seqT {xs : List D} : Wp (seqQ (.tup xs) S) Q E = Q (xs, none) S := by with_unfolding_all exact PVZ.Q_seqT
theorem Q_seqS {z : Str} : Wp (seqQ (.str z) S) Q E = Q (signs z, none) S := by with_unfolding_all exact PVZ.Q_seqS
theorem Q_iR1 : Wp (iR1 ms ρ S) Q E = Wp (ms ρ S) (fun ds S1 => Wp (r1Q ds S1) Q E) E := by with_unfolding_all exact PVZ.Q_iR1
theorem Q_iR2 : Wp (iR2 ms ρ S) Q E = Wp (ms ρ S) (fun ds S1 => Wp (r2Q ds S1) Q E) E := by with_unfolding_all exact PVZ.Q_iR2
theorem wp_r1Q {j : Int} (h : near62 j = true) (q : Q (ups 0 j.toNat, none) S) : Wp (r1Q [.int j] S) Q E := by with_unfolding_all exact PVZ.wp_r1Q h q
theorem wp_r2Q {i j : Int} (h : near62 i = true) (h' : near62 j = true) (q : Q (ups i (j - i).toNat, none) S) : Wp (r2Q [.int i, .int j] S) Q E := by with_unfolding_all exact PVZ.wp_r2Q h h' q
theorem Q_iEn : Wp (iEn ms ρ S) Q E = Wp (ms ρ S) (fun ds S1 => Wp (enD ds S1) Q E) E := by with_unfolding_all exact PVZ.Q_iEn
theorem Q_iZp : Wp (iZp ms ρ S) Q E = Wp (ms ρ S) (fun ds S1 => Wp (zpD ds S1) Q E) E := by with_unfolding_all exact PVZ.Q_iZp
theorem Q_zpl {xs ys : List D} : Wp (zpD [.lst xs, .lst ys] S) Q E = Q (zipD xs ys, none) S := by with_unfolding_all exact PVZ.Q_zpl
theorem Q_zpt {xs ys : List D} : Wp (zpD [.tup xs, .tup ys] S) Q E = Q (zipD xs ys, none) S := by with_unfolding_all exact PVZ.Q_zpt
end
section
variable {α : Type} {E : XQ} {S : Sto} {ρ : Ev} {Q : D → Sto → Prop} {m : ME} {ms : MA}
theorem Q_frz : Wp (frzE m ρ S) Q E = Wp (m ρ S) (fun d S1 => Wp (frzQ d S1) Q E) E := by with_unfolding_all exact PVZ.Q_frz
theorem wp_frzQ {n : Nat} {xs : List D} (h : S[n]? = some (.lst xs)) (q : Q (.lst xs) (S.set n .dead)) : Wp (frzQ (.loc n) S) Q E := by with_unfolding_all exact PVZ.wp_frzQ h q
theorem Q_lns : Wp (lnsE m ρ S) Q E = Wp (m ρ S) (fun d S1 => Wp (lnsQ d S1) Q E) E := by with_unfolding_all exact PVZ.Q_lns
theorem Q_dc {kvs : List (Str × Cst)} : Wp (dcE kvs ρ S) Q E = Q (.hob (.dK (L2.mergeK [] (kvV kvs)))) S := by with_unfolding_all exact PVZ.Q_dc
theorem Q_iEs {Q : List D × Option Nat → Sto → Prop} : Wp (iEs ms ρ S) Q E = Wp (ms ρ S) (fun ds S1 => Wp (ensD ds S1) Q E) E := by with_unfolding_all exact PVZ.Q_iEs
theorem Q_ens {Q : List D × Option Nat → Sto → Prop} {z : Str} : Wp (ensD [.str z] S) Q E = Q (numbered 0 (signs z), none) S := by with_unfolding_all exact PVZ.Q_ens
theorem Q_enl {Q : List D × Option Nat → Sto → Prop} {xs : List D} : Wp (enD [.lst xs] S) Q E = Q (numbered 0 xs, none) S := by with_unfolding_all exact PVZ.Q_enl
theorem Q_ent {Q : List D × Option Nat → Sto → Prop} {xs : List D} : Wp (enD [.tup xs] S) Q E = Q (numbered 0 xs, none) S := by with_unfolding_all exact PVZ.Q_ent
end
section
variable {ρ : Ev} {S : Sto} {N : Ev → Sto → Prop} {R : D → Sto → Prop} {B C : Ev → Sto → Prop} {E : XQ} {m o i : ME}
end
end PV
set_option Elab.async false
set_option linter.all false
set_option maxRecDepth 100000
set_option maxHeartbeats 4000000
namespace PV
open PySem
abbrev nX : XQ := fun _ _ _ => False
theorem eq_of_wp {α : Type} {o : Out α} {d : α} {S : Sto} (h : Wp o (fun d' S' => d' = d ∧ S' = S) nX) : o = .ok d S := by
  obtain ⟨a, S', e, rfl, rfl⟩ := Wp.of h
  exact e
theorem atI_ok {xs : List D} {r : Int} (h0 : 0 ≤ r) (h1 : r < xs.length) : ∃ x, L2.atI xs r = some x ∧ xs[r.toNat]? = some x := by
  have h2 : r.toNat < xs.length := by omega
  refine ⟨xs[r.toNat], ?_, by rw [List.getElem?_eq_getElem h2]⟩
  unfold L2.atI L2.ixN
  rw [if_pos h0, if_pos h1]
  exact List.getElem?_eq_getElem h2
theorem pick_mem {xs : List D} {i : Nat} {x : D} (h : xs[i]? = some x) : x ∈ xs := List.mem_of_getElem? h
theorem wp_app {n : Nat} {xs : List D} {y : D} {S : Sto} {Q : D → Sto → Prop} {E : XQ} (h : S[n]? = some (.lst xs)) (hl : xs.length ≤ 1000) (q : Q .non (S.set n (.lst (xs ++ [y])))) : Wp (appG (.loc n) [y] S) Q E := by
  have e : appG (.loc n) [y] S = .ok .non (S.set n (.lst (xs ++ [y]))) := by
    unfold appG
    simp only [h, hl, if_true]
  exact wp_eq e q
theorem gq_nil {d : D} {S' : Sto} {Q : D → Sto → Prop} {E : XQ} (h : d.und 0 = true) (q : Q d []) : Gq [] Q E d S' := by
  classical
  have e : gcO [] (.ok d S') = .ok d [] := by
    show (if d.und ([] : Sto).length = true ∧ Kept [] S' then Out.ok d (S'.take ([] : Sto).length) else .ok d S') = _
    rw [if_pos ⟨h, fun i c hi _ => absurd hi (Nat.not_lt_zero _)⟩]
    rfl
  unfold Gq
  exact wp_eq e q
theorem law_of {F : Fn} {ds : List D} (h : Wp (F ds []) (fun d _ => d = .bl true) nX) : ∃ S', F ds [] = .ok (.bl true) S' := by
  obtain ⟨d, S', e, rfl⟩ := Wp.of h
  exact ⟨S', e⟩
end PV
set_option Elab.async false
set_option linter.all false
set_option maxRecDepth 100000
set_option maxHeartbeats 4000000
namespace PV
open PySem
theorem numbered_map {α : Type} (g : α → D) : ∀ (ns : List α) (k : Nat), numbered (k : Int) (ns.map g) = (ns.zipIdx k).map fun p => .tup [.int p.2, g p.1]
  | [], _ => rfl
  | n :: ns, k => by
    rw [List.map_cons, numbered, List.zipIdx_cons, List.map_cons]
    have := numbered_map g ns (k + 1)
    rw [show ((k : Int) + 1) = ((k + 1 : Nat) : Int) by omega, this]
theorem sizeLine_eq : sizeLine = 16777216 := by decide
end PV
set_option Elab.async false
set_option linter.all false
set_option maxRecDepth 100000
set_option maxHeartbeats 4000000
namespace PVZ
open PySem PV
section
variable {α β : Type} {E : XQ} {S S1 : Sto} {ρ : Ev} {Q : D → Sto → Prop} {N : Ev → Sto → Prop} {R : D → Sto → Prop} {B C : Ev → Sto → Prop} {ms : MA} {m : ME} {c : String} {fs : List (String × D)}
def _root_.PV.parQ3 (i j l : Nat) (ρ : Ev) (ds : List D) (S1 : Sto) : Out Fl := match ds with
  | [a, b, c] => .ok (.nx (((ρ.set i (some a)).set j (some b)).set l (some c))) S1
  | _ => .no
theorem Q_par3 {i j l : Nat} : Ws (sPar3 i j l ms ρ S) N R B C E = Wp (ms ρ S) (fun ds S1 => Ws (parQ3 i j l ρ ds S1) N R B C E) E := Q_sbind
theorem Q_parc3 {i j l : Nat} {x y z : D} : Ws (parQ3 i j l ρ [x, y, z] S1) N R B C E = N (((ρ.set i (some x)).set j (some y)).set l (some z)) S1 := rfl
def _root_.PV.raiQ (c : String) (fl : List String) (ds : List D) (S1 : Sto) : Out Fl := if ds.length = fl.length then .ex c (fl.zip ds).reverse S1 else .no
theorem Q_rai {fl : List String} : Ws (sRai c fl ms ρ S) N R B C E = Wp (ms ρ S) (fun ds S1 => Ws (raiQ c fl ds S1) N R B C E) E := Q_sbind
theorem Q_rai0 : Ws (raiQ c [] [] S1) N R B C E = E c [] S1 := rfl
theorem Q_rai1 {f : String} {x : D} : Ws (raiQ c [f] [x] S1) N R B C E = E c [(f, x)] S1 := rfl
theorem Q_rai2 {f g : String} {x y : D} : Ws (raiQ c [f, g] [x, y] S1) N R B C E = E c [(g, y), (f, x)] S1 := rfl
theorem Q_gxs : Gx S Q E c fs S = E c fs S := by
  unfold Gx
  rw [gc_samex]
  rfl
theorem wp_isx {τ : List (String × Bool)} {cls : D → Bool} {g : Fn} {ds : List D} {d : D} (e : isiX τ cls g ds S = .ok d S) (q : Q d S) : Wp (isiX τ cls g ds S) Q E := wp_eq e q
theorem wp_fldx {cs : List String} {f : String} {g : G1} {x d : D} (e : fldX cs f g x S = .ok d S) (q : Q d S) : Wp (fldX cs f g x S) Q E := wp_eq e q
theorem wp_lamc {h : Hrd} (z : Wp (m ρ S) (fun d S1 => Wp (h (.ok d S1) S) Q fun _ _ _ => False) fun c fs S1 => Wp (h (.ex c fs S1) S) Q fun _ _ _ => False) : Wp (lamc h m ρ S) Q E := by
  unfold lamc
  match m ρ S, z with
  | .ok d S1, z =>
    have z2 : Wp (h (.ok d S1) S) Q fun _ _ _ => False := z
    obtain ⟨a, S2, e, q⟩ := Wp.of z2
    rw [e]
    exact q
  | .ex c fs S1, z =>
    have z2 : Wp (h (.ex c fs S1) S) Q fun _ _ _ => False := z
    obtain ⟨a, S2, e, q⟩ := Wp.of z2
    rw [e]
    exact q
theorem ex_of_wp {o : Out α} (h : Wp o (fun _ _ => False) fun c' fs' S' => c' = c ∧ fs' = fs ∧ S' = S) : o = .ex c fs S := by
  match o, h with
  | .ex _ _ _, h =>
    obtain ⟨rfl, rfl, rfl⟩ := h
    rfl
end
end PVZ
namespace PV
open PySem
section
variable {α β : Type} {E : XQ} {S S1 : Sto} {ρ : Ev} {Q : D → Sto → Prop} {N : Ev → Sto → Prop} {R : D → Sto → Prop} {B C : Ev → Sto → Prop} {ms : MA} {m : ME} {c : String} {fs : List (String × D)}
theorem Q_par3 {i j l : Nat} : Ws (sPar3 i j l ms ρ S) N R B C E = Wp (ms ρ S) (fun ds S1 => Ws (parQ3 i j l ρ ds S1) N R B C E) E := by with_unfolding_all exact PVZ.Q_par3
theorem Q_parc3 {i j l : Nat} {x y z : D} : Ws (parQ3 i j l ρ [x, y, z] S1) N R B C E = N (((ρ.set i (some x)).set j (some y)).set l (some z)) S1 := by with_unfolding_all exact PVZ.Q_parc3
theorem Q_rai {fl : List String} : Ws (sRai c fl ms ρ S) N R B C E = Wp (ms ρ S) (fun ds S1 => Ws (raiQ c fl ds S1) N R B C E) E := by with_unfolding_all exact PVZ.Q_rai
theorem Q_rai0 : Ws (raiQ c [] [] S1) N R B C E = E c [] S1 := by with_unfolding_all exact PVZ.Q_rai0
theorem Q_rai1 {f : String} {x : D} : Ws (raiQ c [f] [x] S1) N R B C E = E c [(f, x)] S1 := by with_unfolding_all exact PVZ.Q_rai1
theorem Q_rai2 {f g : String} {x y : D} : Ws (raiQ c [f, g] [x, y] S1) N R B C E = E c [(g, y), (f, x)] S1 := by with_unfolding_all exact PVZ.Q_rai2
theorem Q_gxs : Gx S Q E c fs S = E c fs S := by with_unfolding_all exact PVZ.Q_gxs
theorem wp_isx {τ : List (String × Bool)} {cls : D → Bool} {g : Fn} {ds : List D} {d : D} (e : isiX τ cls g ds S = .ok d S) (q : Q d S) : Wp (isiX τ cls g ds S) Q E := by with_unfolding_all exact PVZ.wp_isx e q
theorem wp_fldx {cs : List String} {f : String} {g : G1} {x d : D} (e : fldX cs f g x S = .ok d S) (q : Q d S) : Wp (fldX cs f g x S) Q E := by with_unfolding_all exact PVZ.wp_fldx e q
theorem wp_lamc {h : Hrd} (z : Wp (m ρ S) (fun d S1 => Wp (h (.ok d S1) S) Q fun _ _ _ => False) fun c fs S1 => Wp (h (.ex c fs S1) S) Q fun _ _ _ => False) : Wp (lamc h m ρ S) Q E := by with_unfolding_all exact PVZ.wp_lamc z
theorem ex_of_wp {o : Out α} (h : Wp o (fun _ _ => False) fun c' fs' S' => c' = c ∧ fs' = fs ∧ S' = S) : o = .ex c fs S := by with_unfolding_all exact PVZ.ex_of_wp h
end
end PV
set_option Elab.async false
set_option linter.all false
set_option maxRecDepth 100000
set_option maxHeartbeats 4000000
namespace PVZ
open PySem PV
section
variable {S S1 : Sto} {Q : D → Sto → Prop} {E : XQ} {c : String} {F : Fn} {ds : List D}
theorem wp_gc {o : Out Fl} (h : Ws o (fun _ S' => Gq S Q E .non S') (Gq S Q E) (fun _ _ => False) (fun _ _ => False) (Gx S Q E)) : Wp (gcO S (fin o)) Q E := by
  match o, h with
  | .ok (.nx _) _, h => exact h
  | .ok (.rt _) _, h => exact h
  | .ex _ _ _, h => exact h
theorem wp_mkx {c' : String} {fs : List (String × D)} {T : Sto} (e : F (.loc S.length :: ds) (S ++ [Cell.ins c []]) = .ex c' fs (S ++ T)) (hb : belowf S.length fs = true) (q : E c' fs S) : Wp (mkF c F ds S) Q E := by
  unfold mkF
  rw [e]
  show Wp (gcO S (.ex c' fs (S ++ T))) Q E
  rw [gc_appx hb]
  exact q
end
end PVZ
namespace PV
open PySem
section
variable {S S1 : Sto} {Q : D → Sto → Prop} {E : XQ} {c : String} {F : Fn} {ds : List D}
theorem wp_gc {o : Out Fl} (h : Ws o (fun _ S' => Gq S Q E .non S') (Gq S Q E) (fun _ _ => False) (fun _ _ => False) (Gx S Q E)) : Wp (gcO S (fin o)) Q E := by with_unfolding_all exact PVZ.wp_gc h
theorem wp_mkx {c' : String} {fs : List (String × D)} {T : Sto} (e : F (.loc S.length :: ds) (S ++ [Cell.ins c []]) = .ex c' fs (S ++ T)) (hb : belowf S.length fs = true) (q : E c' fs S) : Wp (mkF c F ds S) Q E := by with_unfolding_all exact PVZ.wp_mkx e hb q
end
theorem end_at' {T : Sto} {c : Cell} : (T ++ [c])[T.length]? = some c := by simp
theorem end_set {T : Sto} {c c' : Cell} : (T ++ [c]).set T.length c' = T ++ [c'] := by simp
theorem wp_appEnd {T : Sto} {xs : List D} {y : D} {Q : D → Sto → Prop} {E : XQ} (hl : xs.length ≤ 1000) (q : Q .non (T ++ [.lst (xs ++ [y])])) : Wp (appG (.loc T.length) [y] (T ++ [.lst xs])) Q E :=
  wp_app end_at' hl (by rw [end_set]; exact q)
theorem wp_frzEnd {T : Sto} {xs : List D} {Q : D → Sto → Prop} {E : XQ} (q : Q (.lst xs) (T ++ [.dead])) : Wp (frzQ (.loc T.length) (T ++ [.lst xs])) Q E :=
  wp_frzQ end_at' (by rw [end_set]; exact q)
end PV
set_option Elab.async false
set_option linter.all false
set_option maxRecDepth 100000
set_option maxHeartbeats 4000000
namespace PVZ
open PySem PV
section
variable {E : XQ} {S : Sto} {ρ : Ev} {N : Ev → Sto → Prop} {R : D → Sto → Prop} {B C : Ev → Sto → Prop} {m o i : ME}
theorem ws_dk (h : Wp (m ρ S) (fun y S1 => Wp (o ρ S1) (fun x S2 => Wp (i ρ S2) (fun k S3 => ∃ n z es, x = .loc n ∧ k = .str z ∧ S3[n]? = some (.dic es) ∧ es.length < 1000 ∧ N ρ (S3.set n (.dic (esP es z y)))) E) E) E) : Ws (sDk o i m ρ S) N R B C E := ws_bind (h.imp (fun y S1 q => ws_bind (q.imp (fun x S2 q => ws_bind (q.imp (fun k S3 q => by
  obtain ⟨n, z, es, rfl, rfl, e1, e2, q⟩ := q
  simp only [e1, if_pos e2]
  exact q) fun _ _ _ q => q)) fun _ _ _ q => q)) fun _ _ _ q => q)
end
end PVZ
namespace PV
open PySem
noncomputable def drawG (c1 c2 c3 : Int) : MS := (sSeq (sWhl (tAn (tst (bin (ltG) (bin ddG (v 0) (k (.str "rest"))) (k (.int 2)))) (tst (bin (ltG) (bin ddG (v 0) (k (.str "at"))) (cal lenB (aCons (bin ddG (v 0) (k (.str "cells"))) aNil))))) (sSeq (sSet 2 (cal absB (aCons (bin ixG (bin ddG (v 0) (k (.str "cells"))) (bin ddG (v 0) (k (.str "at")))) aNil))) (sSeq (sDk (v 0) (k (.str "at")) (bin (addG) (bin ddG (v 0) (k (.str "at"))) (k (.int 1)))) (sSeq (sIf (tst (bin (ltG) (v 2) (bin (powG) (k (.int 10)) (k (.int 18))))) (sSeq (sSet 3 (bin (modG) (cal intB (aCons (bin (addG) (bin (powG) (bin (addG) (v 2) (k (.int c1))) (k (.int 3))) (bin (mulG) (bin ddG (v 0) (k (.str "state"))) (bin (addG) (bin ddG (v 0) (k (.str "at"))) (k (.int 1))))) aNil)) (k (.int 2147483629)))) (sSeq (sRet (bin (modG) (v 3) (v 1))) sNil)) sNil) (sSeq (sDk (v 0) (k (.str "rest")) (v 2)) sNil))))) (sSeq (sIf (tst (bin (geG) (bin ddG (v 0) (k (.str "rest"))) (k (.int 2)))) (sSeq (sSet 4 (bin (modG) (cal intB (aCons (bin ddG (v 0) (k (.str "rest"))) aNil)) (v 1))) (sSeq (sDk (v 0) (k (.str "rest")) (bin (fdivG) (bin ddG (v 0) (k (.str "rest"))) (v 1))) (sSeq (sRet (v 4)) sNil))) sNil) (sSeq (sDk (v 0) (k (.str "state")) (bin (modG) (cal intB (aCons (bin (addG) (bin (mulG) (bin ddG (v 0) (k (.str "state"))) (k (.int c2))) (k (.int c3))) aNil)) (k (.int 2147483647)))) (sSeq (sRet (bin (modG) (bin (modG) (cal intB (aCons (bin (powG) (bin ddG (v 0) (k (.str "state"))) (k (.int 5))) aNil)) (k (.int 2147483629))) (v 1))) sNil))))
def bagC (cs : List Int) (a r st : Int) : Cell := .dic [("cells", .lst (cs.map .int)), ("at", .int a), ("rest", .int r), ("state", .int st)]
def Bag (S : Sto) (p : Nat) : Prop := ∃ cs a r st, S[p]? = some (bagC cs a r st) ∧ cs.length ≤ 63 ∧ 0 ≤ a ∧ a ≤ cs.length ∧ 0 ≤ r ∧ 0 ≤ st ∧ st < 2147483647
def SameBag (p : Nat) (S S' : Sto) : Prop := ∃ cs a r st, S' = S.set p (bagC cs a r st)
theorem bagC_und (m : Nat) (cs : List Int) (a r st : Int) : (bagC cs a r st).und m = true := by
  simp [bagC, Cell.und, belowk, D.und, belows_ints]
theorem Bag.lt {S : Sto} {p : Nat} (h : Bag S p) : p < S.length := by
  obtain ⟨cs, a, r, st, e, _⟩ := h
  exact (List.getElem?_eq_some_iff.mp e).1
theorem Bag.app {S T : Sto} {p : Nat} (h : Bag S p) : Bag (S ++ T) p := by
  obtain ⟨cs, a, r, st, e, z⟩ := id h
  exact ⟨cs, a, r, st, by rw [List.getElem?_append_left h.lt]; exact e, z⟩
theorem SameBag.refl {S : Sto} {p : Nat} (h : Bag S p) : SameBag p S S := by
  obtain ⟨cs, a, r, st, e, z⟩ := id h
  obtain ⟨hp, e2⟩ := List.getElem?_eq_some_iff.mp e
  exact ⟨cs, a, r, st, by rw [← e2, List.set_getElem_self]⟩
theorem SameBag.trans {S S' S'' : Sto} {p : Nat} (h : SameBag p S S') (h' : SameBag p S' S'') : SameBag p S S'' := by
  obtain ⟨cs, a, r, st, rfl⟩ := h
  obtain ⟨cs', a', r', st', rfl⟩ := h'
  exact ⟨cs', a', r', st', by rw [List.set_set]⟩
theorem SameBag.len {S S' : Sto} {p : Nat} (h : SameBag p S S') : S'.length = S.length := by
  obtain ⟨cs, a, r, st, rfl⟩ := h
  exact List.length_set ..
theorem wp_dd {n : Nat} {es : List (Str × D)} {z : Str} {d : D} {S : Sto} {Q : D → Sto → Prop} {E : XQ} (h : S[n]? = some (.dic es)) (g : esG es z = some d) (q : Q d S) : Wp (ddG (.loc n) (.str z) S) Q E := wp_eq (by
  unfold ddG
  simp only [h, g]) q
section
variable {E : XQ} {S : Sto} {ρ : Ev} {N : Ev → Sto → Prop} {R : D → Sto → Prop} {B C : Ev → Sto → Prop} {m o i : ME}
theorem ws_dk (h : Wp (m ρ S) (fun y S1 => Wp (o ρ S1) (fun x S2 => Wp (i ρ S2) (fun k S3 => ∃ n z es, x = .loc n ∧ k = .str z ∧ S3[n]? = some (.dic es) ∧ es.length < 1000 ∧ N ρ (S3.set n (.dic (esP es z y)))) E) E) E) : Ws (sDk o i m ρ S) N R B C E := by with_unfolding_all exact PVZ.ws_dk h
end
end PV
set_option Elab.async false
set_option linter.all false
set_option maxRecDepth 100000
set_option maxHeartbeats 4000000
local macro_rules | `(tactic| k_upd) => `(tactic| first | simp -dsimp -implicitDefEqProofs only [PV.Q_ok, PV.Q_ex, PV.Q_v0, PV.Q_vs, PV.Q_k, PV.Q_bin, PV.Q_una, PV.Q_cal, PV.Q_nil, PV.Q_cons, PV.Q_star, PV.Q_tst, PV.Q_tru, PV.Q_no, PV.Q_an, PV.Q_or, PV.Q_ifE, PV.Q_anE, PV.Q_orE, PV.Q_anD, PV.Q_orD, PV.Q_noE, PV.Q_chn, PV.Q_chD, PV.Q_t, PV.Q_f, PV.Q_T, PV.Q_F, PV.Q_tup, PV.Q_lst, PV.Q_lstM, PV.Q_cm, PV.Q_sm, PV.Q_mt, PV.Q_mtK, PV.Q_mthL, PV.Q_mthS, PV.Q_isStr, PV.Q_itemsF, PV.Q_sli, PV.Q_oNo, PV.Q_oSo, PV.Q_add, PV.Q_addI, PV.Q_sub, PV.Q_neg, PV.Q_eqI, PV.Q_neI, PV.Q_lt, PV.Q_le, PV.Q_gt, PV.Q_ge, PV.Q_isN, PV.Q_int, PV.Q_intb, PV.Q_abs, PV.Q_lenl, PV.Q_lent, PV.Q_tupl, PV.Q_tupt, PV.Q_listl, PV.Q_listt, PV.Q_onlyB, PV.Q_notB, PV.Q_ixt0, PV.Q_ixt1, PV.Q_ixt2, PV.Q_ixt3, PV.Q_ixl0, PV.Q_ixl1, PV.Q_ixl2, PV.Q_ixl3, PV.Q_seq, PV.Q_sNil, PV.Q_ret, PV.Q_retN, PV.Q_exp, PV.Q_set, PV.Q_if, PV.Q_brk, PV.Q_cnt, PV.Q_st, PV.Q_sf, PV.Q_nx, PV.Q_sT, PV.Q_sF, PV.Q_par, PV.Q_parQ, PV.Q_asg, PV.Q_asgN, PV.Q_asg2, PV.Q_asg3, PV.Q_asg4, PV.Q_aug, PV.Q_augQ, PV.Q_iSeq, PV.Q_seqL, PV.Q_seqT, PV.Q_seqS, PV.Q_iR1, PV.Q_iR2, PV.Q_iEn, PV.Q_iZp, PV.Q_zpl, PV.Q_zpt, PV.Q_frz, PV.Q_lns, PV.Q_dc, PV.Q_iEs, PV.Q_ens, PV.Q_enl, PV.Q_ent, PV.Q_par3, PV.Q_parc3, PV.Q_rai, PV.Q_rai0, PV.Q_rai1, PV.Q_rai2, PV.Q_gxs, PV.Q_bind, PV.Q_sbind, PV.truD, List.map_cons, List.map_nil, List.cons_append, List.nil_append, Nat.reduceSub, List.reduceReplicate, List.set_cons_zero, List.set_cons_succ, Bool.not_true, Bool.not_false, Bool.not_not, Bool.false_xor, Bool.true_xor, Bool.false_eq_true, and_self, true_and, and_true, PV.wipeD, PV.Tg.slots] | ((with_reducible apply PV.wp_fld); (focus rfl); (focus rfl); (focus rfl)) | ((with_reducible apply PV.wp_isi); (focus rfl)) | ((with_reducible apply PV.wp_isiA); (focus rfl)) | ((with_reducible apply PV.wp_lstQ); (focus exact Nat.le_of_ble_eq_true rfl)) | ((with_reducible apply PV.wp_tupQ); (focus exact Nat.le_of_ble_eq_true rfl)) | ((with_reducible apply PV.wp_lstMQ); (focus exact Nat.le_of_ble_eq_true rfl)) | ((with_reducible apply PV.wp_mtQ); (focus rfl); (focus rfl); (focus rfl)) | ((with_reducible apply PV.wp_mtKQ); (focus rfl); (focus rfl)) | ((with_reducible apply PV.wp_r1Q); (focus exact PV.near62_of (by omega) (by omega))) | ((with_reducible apply PV.wp_r2Q); (focus exact PV.near62_of (by omega) (by omega)); (focus exact PV.near62_of (by omega) (by omega))) | ((with_reducible apply PV.wp_ofLen); (focus rfl)) | ((with_reducible apply PV.wp_isx); (focus rfl)) | ((with_reducible apply PV.wp_fldx); (focus rfl)) | ((with_reducible apply PV.wp_kw); (focus rfl)) | ((with_reducible apply PV.ws_asgQ); (focus rfl)) | ((with_reducible apply PV.ex1); (focus rfl)) | ((with_reducible apply And.intro); (focus rfl)) | with_reducible exact PV.gq_same ⟨rfl, rfl⟩ | with_reducible exact ⟨rfl, rfl⟩)
namespace PV
open PySem
abbrev bagL (cs : List Int) (a r st : Int) : List (Str × D) := [("cells", .lst (cs.map .int)), ("at", .int a), ("rest", .int r), ("state", .int st)]
section
variable {cs : List Int} {a r st b : Int}
theorem g_cells : esG (bagL cs a r st) "cells" = some (.lst (cs.map .int)) := rfl
theorem g_at : esG (bagL cs a r st) "at" = some (.int a) := rfl
theorem g_rest : esG (bagL cs a r st) "rest" = some (.int r) := rfl
theorem g_state : esG (bagL cs a r st) "state" = some (.int st) := rfl
theorem p_at : esP (bagL cs a r st) "at" (.int b) = bagL cs b r st := rfl
theorem p_rest : esP (bagL cs a r st) "rest" (.int b) = bagL cs a b st := rfl
theorem p_state : esP (bagL cs a r st) "state" (.int b) = bagL cs a r b := rfl
end
def BagIn (S : Sto) (p : Nat) (cs : List Int) (a r st : Int) : Prop := S[p]? = some (.dic (bagL cs a r st)) ∧ cs.length ≤ 63 ∧ 0 ≤ a ∧ a ≤ cs.length ∧ 0 ≤ r ∧ 0 ≤ st ∧ st < 2147483647
theorem BagIn.same {S S' : Sto} {p : Nat} {cs : List Int} {a r st : Int} (h : BagIn S' p cs a r st) (hs : SameBag p S S') {a' r' st' : Int} : SameBag p S (S'.set p (.dic (bagL cs a' r' st'))) := by
  obtain ⟨cs1, a1, r1, s1, rfl⟩ := hs
  exact ⟨cs, a', r', st', by rw [List.set_set]; rfl⟩
def DrawB (F : Fn) : Prop := ∀ {S : Sto} {p : Nat} {m : Int} {Q : D → Sto → Prop} {E : XQ}, Bag S p → 1 ≤ m → m < 2 ^ 110 → (∀ r S', 0 ≤ r → r < m → SameBag p S S' → Bag S' p → Q (.int r) S') → Wp (F [.loc p, .int m] S) Q E
theorem drawG_of {c1 c2 c3 : Int} (k1 : 0 ≤ c1 ∧ c1 < 1000) (k2 : 0 ≤ c2 ∧ c2 < 2147483647) (k3 : 0 ≤ c3 ∧ c3 < 1000) : DrawB (dfn 2 5 (drawG c1 c2 c3)) := by
  intro S p m Q E h hm hm' q
  have hd : divOk m = true := divOk_small (by omega) (by omega)
  have m0 : 0 < m := by omega
  obtain ⟨cs, a, r, st, e, hl, ha, ha', hr, h0, h1⟩ := id h
  have sb0 : SameBag p S S := .refl h
  have fin : ∀ {cs : List Int} {a r st : Int} {S' : Sto}, BagIn S' p cs a r st → SameBag p S S' → ∀ n : Int, 0 ≤ n → n < m → Gq S Q E (.int n) S' := fun hb hs n n0 n1 => gq_len hs.len (q n _ n0 n1 hs ⟨_, _, _, _, hb⟩)
  refine wp_dfn rfl ?_
  unfold drawG
  (repeat k_upd)
  refine Ws.imp (N := fun ρ S' => ∃ cs a r st x2 x3 x4, ρ = [some (.loc p), some (.int m), x2, x3, x4] ∧ BagIn S' p cs a r st ∧ SameBag p S S') ?loop ?tail (fun _ _ q => q) (fun _ _ q => q) (fun _ _ q => q) (fun _ _ _ q => q)
  case tail =>
    rintro ρ S' ⟨cs, a, r, st, x2, x3, x4, rfl, hb, hs⟩
    obtain ⟨e, hl, ha, ha', hr, h0, h1⟩ := id hb
    have lt : p < S'.length := (List.getElem?_eq_some_iff.mp e).1
    (repeat k_upd)
    refine wp_dd e g_rest ?_
    (repeat k_upd)
    by_cases c : (2 : Int) ≤ r
    · refine ws_dt c ?_
      (repeat k_upd)
      refine wp_dd e g_rest ?_
      (repeat k_upd)
      refine wp_mod m0 ?_
      (repeat k_upd)
      refine ws_dk ?_
      (repeat k_upd)
      refine wp_dd e g_rest ?_
      (repeat k_upd)
      refine wp_fdiv hd ?_
      (repeat k_upd)
      refine ⟨_, _, _, rfl, rfl, e, Nat.le_of_ble_eq_true rfl, ?_⟩
      rw [p_rest]
      (repeat k_upd)
      refine fin (cs := cs) (a := a) (r := r / m) (st := st) ⟨List.getElem?_set_self lt, hl, ha, ha', Int.ediv_nonneg hr (by omega), h0, h1⟩ (hb.same hs) _ (Int.emod_nonneg _ (by omega)) (Int.emod_lt_of_pos _ m0)
    · refine ws_df c ?_
      (repeat k_upd)
      refine ws_dk ?_
      (repeat k_upd)
      refine wp_dd e g_state ?_
      (repeat k_upd)
      refine wp_mul (PV.mulOk_l (by omega) (by omega)) ?_
      (repeat k_upd)
      refine wp_mod (by decide) ?_
      (repeat k_upd)
      refine ⟨_, _, _, rfl, rfl, e, Nat.le_of_ble_eq_true rfl, ?_⟩
      rw [p_state]
      have z0 : 0 ≤ (st * c2 + c3) % 2147483647 := Int.emod_nonneg _ (by decide)
      have z1 : (st * c2 + c3) % 2147483647 < 2147483647 := Int.emod_lt_of_pos _ (by decide)
      generalize (st * c2 + c3) % 2147483647 = st2 at z0 z1 ⊢
      have e2 : (S'.set p (.dic (bagL cs a r st2)))[p]? = some (.dic (bagL cs a r st2)) := List.getElem?_set_self lt
      (repeat k_upd)
      refine wp_dd e2 g_state ?_
      (repeat k_upd)
      refine wp_pow (powOk_of (by decide) (by decide) (by omega)) ?_
      (repeat k_upd)
      refine wp_mod (by decide) ?_
      (repeat k_upd)
      refine wp_mod m0 ?_
      (repeat k_upd)
      exact fin (cs := cs) (a := a) (r := r) (st := st2) ⟨e2, hl, ha, ha', hr, z0, z1⟩ (hb.same hs) _ (Int.emod_nonneg _ (by omega)) (Int.emod_lt_of_pos _ m0)
  case loop =>
  refine ws_whl (fun n ρ S' => ∃ cs a r st x2 x3 x4, n = (cs.length - a).toNat ∧ ρ = [some (.loc p), some (.int m), x2, x3, x4] ∧ BagIn S' p cs a r st ∧ SameBag p S S') ((cs.length - a).toNat) ⟨cs, a, r, st, none, none, none, rfl, rfl, ⟨e, hl, ha, ha', hr, h0, h1⟩, sb0⟩ ?_
  rintro n ρ S' ⟨cs, a, r, st, x2, x3, x4, rfl, rfl, hb, hs⟩
  obtain ⟨e, hl, ha, ha', hr, h0, h1⟩ := id hb
  have lt : p < S'.length := (List.getElem?_eq_some_iff.mp e).1
  (repeat k_upd)
  refine wp_dd e g_rest ?_
  (repeat k_upd)
  by_cases c : r < (2 : Int)
  · refine wp_dt c ?_
    (repeat k_upd)
    refine wp_dd e g_at ?_
    (repeat k_upd)
    refine wp_dd e g_cells ?_
    (repeat k_upd)
    rw [List.length_map]
    refine ⟨fun c2 => ?_, fun c2 => ⟨cs, a, r, st, _, _, _, rfl, hb, hs⟩⟩
    have c2 := of_decide_eq_true c2
    (repeat k_upd)
    refine wp_dd e g_cells ?_
    (repeat k_upd)
    refine wp_dd e g_at ?_
    (repeat k_upd)
    obtain ⟨x, hx⟩ : ∃ x, cs[a.toNat]? = some x := ⟨_, List.getElem?_eq_getElem (by omega)⟩
    refine wp_ixl (x := .int x) ?_ ?_
    · unfold L2.atI L2.ixN
      rw [if_pos ha, if_pos (by rw [List.length_map]; omega)]
      show (cs.map D.int)[a.toNat]? = _
      rw [List.getElem?_map, hx]
      rfl
    (repeat k_upd)
    obtain ⟨y, hy⟩ : ∃ y : Int, y = if x < 0 then -x else x := ⟨_, rfl⟩
    rw [← hy]
    have y0 : 0 ≤ y := by rw [hy]; split <;> omega
    refine ws_dk ?_
    (repeat k_upd)
    refine wp_dd e g_at ?_
    (repeat k_upd)
    refine ⟨_, _, _, rfl, rfl, e, Nat.le_of_ble_eq_true rfl, ?_⟩
    rw [p_at]
    have e2 : (S'.set p (.dic (bagL cs (a + 1) r st)))[p]? = some (.dic (bagL cs (a + 1) r st)) := List.getElem?_set_self lt
    (repeat k_upd)
    refine wp_pow (by decide) ?_
    (repeat k_upd)
    by_cases c3 : y < 10 ^ 18
    · refine ws_dt c3 ?_
      (repeat k_upd)
      refine wp_pow (powOk_of (by decide) (by decide) (by omega)) ?_
      (repeat k_upd)
      refine wp_dd e2 g_state ?_
      (repeat k_upd)
      refine wp_dd e2 g_at ?_
      (repeat k_upd)
      refine wp_mul (PV.mulOk_l (by omega) (by omega)) ?_
      (repeat k_upd)
      refine wp_mod (by decide) ?_
      (repeat k_upd)
      refine wp_mod m0 ?_
      (repeat k_upd)
      exact fin (cs := cs) (a := a + 1) (r := r) (st := st) ⟨e2, hl, by omega, by omega, hr, h0, h1⟩ (hb.same hs) _ (Int.emod_nonneg _ (by omega)) (Int.emod_lt_of_pos _ m0)
    · refine ws_df c3 ?_
      (repeat k_upd)
      refine ws_dk ?_
      (repeat k_upd)
      refine ⟨_, _, _, rfl, rfl, e2, Nat.le_of_ble_eq_true rfl, ?_⟩
      rw [p_rest, List.set_set]
      refine ⟨(cs.length - (a + 1)).toNat, by omega, cs, a + 1, y, st, _, _, _, rfl, rfl, ⟨List.getElem?_set_self lt, hl, by omega, by omega, y0, h0, h1⟩, hb.same hs⟩
  · refine wp_df c ?_
    (repeat k_upd)
    refine ⟨fun z => (by cases z), fun _ => ⟨cs, a, r, st, _, _, _, rfl, hb, hs⟩⟩
def PickB (F : Fn) : Prop := ∀ {S : Sto} {p : Nat} {xs : List D} {Q : D → Sto → Prop} {E : XQ}, Bag S p → 1 ≤ xs.length → xs.length ≤ 1000 → (∀ (i : Nat) x S', xs[i]? = some x → SameBag p S S' → Bag S' p → Q x S') → Wp (F [.loc p, .lst xs] S) Q E
theorem pickB_of {F : Fn} (hF : DrawB F) : PickB (dfn 2 2 (sSeq (sRet (bin ixG (v 1) (cal F (aCons (v 0) (aCons (cal lenB (aCons (v 1) aNil)) aNil))))) sNil)) := by
  intro S p xs Q E h h0 h1 q
  refine wp_dfn rfl ?_
  (repeat k_upd)
  refine hF h (by omega) (by omega) fun r S' r0 r1 s1 p1 => ?_
  obtain ⟨x, e1, e2⟩ := atI_ok (xs := xs) r0 r1
  refine wp_ixl e1 ?_
  exact gq_len s1.len (q _ x S' e2 s1 p1)
noncomputable def bagF (c0 c1 c2 : Int) : MS := (sSeq (sSet 1 (k (.int c0))) (sSeq (sFor (.nm 2) (iSeq (sli (v 0) (oNo) (oSo (k (.int 63))))) (sSeq (sSet 1 (bin (modG) (cal intB (aCons (bin (addG) (bin (addG) (bin (mulG) (v 1) (k (.int c1))) (bin (modG) (cal absB (aCons (v 2) aNil)) (k (.int 2147483629)))) (k (.int c2))) aNil)) (k (.int 2147483647)))) sNil)) (sSeq (sRet (dicM [("cells", cal listB (aCons (sli (v 0) (oNo) (oSo (k (.int 63)))) aNil)), ("at", k (.int 0)), ("rest", k (.int 0)), ("state", v 1)])) sNil)))
theorem sli63 {cs : List Int} (h : cs.length ≤ 63) {x : Option D} {ρ : Ev} {S : Sto} : sli (v 0) (oNo) (oSo (k (.int 63))) (some (.src (cs.map .int)) :: ρ) S = .ok (.lst (cs.map .int)) S :=
  sli_ok rfl rfl rfl (show slG (.src (cs.map .int)) none (some 63) S = .ok (.lst (cs.map .int)) S by
    show Out.ok (D.lst (cutD (cs.map D.int) none (some 63))) S = _
    rw [cut63 _ (by simpa using h)])
theorem bag_ok {c0 c1 c2 : Int} (k0 : 0 ≤ c0 ∧ c0 < 1000) (k1 : 0 ≤ c1 ∧ c1 < 2147483647) (k2 : 0 ≤ c2 ∧ c2 < 1000) {cs : List Int} (h : cs.length ≤ 63) {Q : D → Sto → Prop} {E : XQ} (q : ∀ S', Bag S' 0 → S'.length = 1 → Q (.loc 0) S') : Wp (dfn 1 3 (bagF c0 c1 c2) [.src (cs.map .int)] []) Q E := by
  refine wp_dfn rfl ?_
  unfold bagF
  (repeat k_upd)
  refine ws_for (fun j ρ S' => S' = [] ∧ ∃ st x2, 0 ≤ st ∧ st < 2147483647 ∧ ρ = [some (.src (cs.map .int)), some (.int st), x2]) (wp_eq (a := (cs.map .int, none)) (S := []) ?_ ⟨fun _ _ _ _ => trivial, ⟨rfl, c0, none, by omega, by omega, rfl⟩, ?_, ?_⟩)
  · show (sli _ _ _ _ _).bind _ = _
    rw [sli63 h (x := none)]
    rfl
  · rintro j x hx ρ S' ⟨rfl, st, x2, s0, s1, rfl⟩
    have hx : (cs.map D.int)[j]? = some x := hx
    rw [List.getElem?_map] at hx
    obtain ⟨n, hn, rfl⟩ := Option.map_eq_some_iff.mp hx
    refine ⟨_, rfl, ?_⟩
    (repeat k_upd)
    refine wp_mul (PV.mulOk_l (by omega) (by omega)) ?_
    (repeat k_upd)
    refine wp_mod (by decide) ?_
    (repeat k_upd)
    refine wp_mod (by decide) ?_
    (repeat k_upd)
    exact ⟨_, _, Int.emod_nonneg _ (by decide), Int.emod_lt_of_pos _ (by decide), rfl⟩
  · rintro ρ S' ⟨rfl, st, x2, s0, s1, rfl⟩
    (repeat k_upd)
    refine wp_eq (a := .loc 0) (S := [bagC cs 0 0 st]) ?_ ?_
    · show ((dicL _ _ _).bind _) = _
      have e1 : cal listB (aCons (sli (v 0) (oNo) (oSo (k (.int 63)))) aNil) [some (.src (cs.map .int)), some (.int st), x2] [Cell.dic []] = .ok (.lst (cs.map .int)) [Cell.dic []] := by
        refine cal_ok (cons_ok (sli63 h (x := none)) rfl) rfl
      show ((cal listB (aCons (sli (v 0) (oNo) (oSo (k (.int 63)))) aNil) [some (.src (cs.map .int)), some (.int st), x2] [Cell.dic []]).bind _).bind _ = _
      rw [e1]
      show dicQ 0 (bagL cs 0 0 st) [Cell.dic []] = _
      unfold dicQ
      show (if _ then _ else _) = _
      rw [if_pos ⟨Nat.le_of_ble_eq_true rfl, show ((["cells", "at", "rest", "state"] : List Str)).Nodup by decide +kernel⟩]
      rfl
    · unfold Gq
      classical
      refine wp_eq (a := .loc 0) (S := [bagC cs 0 0 st]) ?_ (q _ ⟨cs, 0, 0, st, rfl, h, by omega, by omega, by omega, s0, s1⟩ rfl)
      unfold gcO
      simp only
      exact if_neg (fun z => by
        have := z.1
        simp [D.und] at this)
theorem gq_bag {S S' T : Sto} {p : Nat} {d : D} {Q : D → Sto → Prop} {E : XQ} (hs : SameBag p S S') (h : d.und S.length = true) (q : Q d S') : Gq S Q E d (S' ++ T) := by
  obtain ⟨cs, a, r, st, rfl⟩ := hs
  unfold Gq
  rw [gc_setApp h (bagC_und _ cs a r st)]
  exact wp_ok q
theorem samebag_app {S T S' : Sto} {p : Nat} (hp : Bag S p) (h : SameBag p (S ++ T) S') : ∃ S'', S' = S'' ++ T ∧ SameBag p S S'' := by
  obtain ⟨cs, a, r, st, rfl⟩ := h
  exact ⟨S.set p (bagC cs a r st), by rw [List.set_append_left _ _ hp.lt], cs, a, r, st, rfl⟩
theorem bag_cut {S T : Sto} {p : Nat} (hp : p < S.length) (h : Bag (S ++ T) p) : Bag S p := by
  obtain ⟨cs, a, r, st, e, z⟩ := h
  rw [List.getElem?_append_left hp] at e
  exact ⟨cs, a, r, st, e, z⟩
end PV
set_option Elab.async false
set_option linter.all false
set_option maxRecDepth 100000
set_option maxHeartbeats 4000000
namespace PV
open PySem
theorem Q_sT_NoneType_int : subT "NoneType" "int" = false := by decide +kernel
theorem Q_sT_NoneType_bool : subT "NoneType" "bool" = false := by decide +kernel
theorem Q_sT_NoneType_str : subT "NoneType" "str" = false := by decide +kernel
theorem Q_sT_NoneType_list : subT "NoneType" "list" = false := by decide +kernel
theorem Q_sT_NoneType_tuple : subT "NoneType" "tuple" = false := by decide +kernel
theorem Q_sT_bool_int : subT "bool" "int" = true := by decide +kernel
theorem Q_sT_bool_bool : subT "bool" "bool" = true := by decide +kernel
theorem Q_sT_bool_str : subT "bool" "str" = false := by decide +kernel
theorem Q_sT_bool_list : subT "bool" "list" = false := by decide +kernel
theorem Q_sT_bool_tuple : subT "bool" "tuple" = false := by decide +kernel
theorem Q_sT_int_int : subT "int" "int" = true := by decide +kernel
theorem Q_sT_int_bool : subT "int" "bool" = false := by decide +kernel
theorem Q_sT_int_str : subT "int" "str" = false := by decide +kernel
theorem Q_sT_int_list : subT "int" "list" = false := by decide +kernel
theorem Q_sT_int_tuple : subT "int" "tuple" = false := by decide +kernel
theorem Q_sT_str_int : subT "str" "int" = false := by decide +kernel
theorem Q_sT_str_bool : subT "str" "bool" = false := by decide +kernel
theorem Q_sT_str_str : subT "str" "str" = true := by decide +kernel
theorem Q_sT_str_list : subT "str" "list" = false := by decide +kernel
theorem Q_sT_str_tuple : subT "str" "tuple" = false := by decide +kernel
theorem Q_sT_tuple_int : subT "tuple" "int" = false := by decide +kernel
theorem Q_sT_tuple_bool : subT "tuple" "bool" = false := by decide +kernel
theorem Q_sT_tuple_str : subT "tuple" "str" = false := by decide +kernel
theorem Q_sT_tuple_list : subT "tuple" "list" = false := by decide +kernel
theorem Q_sT_tuple_tuple : subT "tuple" "tuple" = true := by decide +kernel
theorem Q_sT_list_int : subT "list" "int" = false := by decide +kernel
theorem Q_sT_list_bool : subT "list" "bool" = false := by decide +kernel
theorem Q_sT_list_str : subT "list" "str" = false := by decide +kernel
theorem Q_sT_list_list : subT "list" "list" = true := by decide +kernel
theorem Q_sT_list_tuple : subT "list" "tuple" = false := by decide +kernel
theorem Q_sT_dict_int : subT "dict" "int" = false := by decide +kernel
theorem Q_sT_dict_bool : subT "dict" "bool" = false := by decide +kernel
theorem Q_sT_dict_str : subT "dict" "str" = false := by decide +kernel
theorem Q_sT_dict_list : subT "dict" "list" = false := by decide +kernel
theorem Q_sT_dict_tuple : subT "dict" "tuple" = false := by decide +kernel
theorem Q_nn_i {i : Int} : isNon (.int i) = false := rfl
theorem Q_nn_n  : isNon (.non) = true := rfl
theorem Q_nn_t {xs : List D} : isNon (.tup xs) = false := rfl
theorem Q_nn_l {xs : List D} : isNon (.lst xs) = false := rfl
theorem Q_nn_s {z : Str} : isNon (.str z) = false := rfl
theorem Q_nn_b {b : Bool} : isNon (.bl b) = false := rfl
theorem Q_nn_d  : isNon (.dic0) = false := rfl
theorem Q_nn_o {c : String} {fs : List (String × D)} : isNon (.obj c fs) = false := rfl
end PV
set_option Elab.async false
set_option linter.all false
set_option maxRecDepth 100000
set_option maxHeartbeats 4000000
namespace PV
open PySem PySem.Spec PyProof.Rows L2
end PV
set_option Elab.async false
set_option linter.all false
set_option maxRecDepth 100000
set_option maxHeartbeats 4000000
namespace PV
open PySem
end PV
set_option Elab.async false
set_option linter.all false
set_option maxRecDepth 100000
set_option maxHeartbeats 4000000
namespace PV
open PySem PyProof.Rows
theorem in_tup (n : Int) (ns : List Int) (S : Sto) : inG false (.int n) (.tup (ns.map .int)) S = .ok (.bl (decide (n ∈ ns))) S := by
  simp only [inG, inD, toP, toPs_ints, flat_ints, inD.flat, and_self, if_true, PV.any_ints]
  simp
end PV
set_option Elab.async false
set_option linter.all false
set_option maxRecDepth 100000
set_option maxHeartbeats 4000000
namespace PV
open PySem
section
variable {S S1 : Sto} {Q : D → Sto → Prop} {E : XQ} {ρ : Ev} {a m mx : ME} {ms ms2 : MA} {N B C : Ev → Sto → Prop} {R : D → Sto → Prop}
theorem wp_ic {τ : List (String × D)} {f c : String} {x y : D} {fs : List (String × D)} (h1 : insOf S x = some (c, fs)) (h2 : τ.lookup c = some y) (h3 : fs.lookup f = none) (q : Q y S) : Wp (icG τ f x S) Q E := wp_eq (by
  unfold icG
  simp only [h1, h2, h3]) q
def mtKNQ (τ : List (String × Fn)) (n : String) (k : Nat) (ms : MA) (ρ : Ev) (x : D) (S1 : Sto) : Out D := match insOf S1 x with
  | some (c, fs) => match τ.lookup c with
    | some F => match fs.lookup n with
      | none => (ms ρ S1).bind fun ds S2 => if ds.length = k then F (x :: ds) S2 else .no
      | some _ => .no
    | none => .no
  | none => .no
theorem Q_mtKN {τ : List (String × Fn)} {n : String} {k : Nat} : Wp (mtKN τ n k a ms ρ S) Q E = Wp (a ρ S) (fun x S1 => Wp (mtKNQ τ n k ms ρ x S1) Q E) E := Q_bind
theorem wp_mtKNQ {τ : List (String × Fn)} {n C : String} {k : Nat} {x : D} {fs : List (String × D)} {F : Fn} (e1 : insOf S x = some (C, fs)) (e2 : τ.lookup C = some F) (e3 : fs.lookup n = none) (q : Wp (ms ρ S) (fun ds S2 => ds.length = k ∧ Wp (F (x :: ds) S2) Q E) E) : Wp (mtKNQ τ n k ms ρ x S) Q E := by
  unfold mtKNQ
  simp only [e1, e2, e3]
  exact wp_bind (q.imp (fun ds S2 q => by rw [if_pos q.1]; exact q.2) fun _ _ _ q => q)
def mtPKQ (τ : List (String × Fn)) (n : String) (i k : Nat) (ms ks : MA) (ρ : Ev) (x : D) (S1 : Sto) : Out D := match insOf S1 x with
  | some (c, fs) => match τ.lookup c with
    | some F => match fs.lookup n with
      | none => (ms ρ S1).bind fun xs S2 => (ks ρ S2).bind fun ys S3 => if xs.length = i ∧ ys.length = k then F (x :: (xs ++ ys)) S3 else .no
      | some _ => .no
    | none => .no
  | none => .no
theorem Q_mtPK {τ : List (String × Fn)} {n : String} {i k : Nat} : Wp (mtPK τ n i k a ms ms2 ρ S) Q E = Wp (a ρ S) (fun x S1 => Wp (mtPKQ τ n i k ms ms2 ρ x S1) Q E) E := Q_bind
theorem wp_mtPKQ {τ : List (String × Fn)} {n C : String} {i k : Nat} {x : D} {fs : List (String × D)} {F : Fn} (e1 : insOf S x = some (C, fs)) (e2 : τ.lookup C = some F) (e3 : fs.lookup n = none)
    (q : Wp (ms ρ S) (fun xs S2 => Wp (ms2 ρ S2) (fun ys S3 => (xs.length = i ∧ ys.length = k) ∧ Wp (F (x :: (xs ++ ys)) S3) Q E) E) E) : Wp (mtPKQ τ n i k ms ms2 ρ x S) Q E := by
  unfold mtPKQ
  simp only [e1, e2, e3]
  exact wp_bind (q.imp (fun xs S2 q => wp_bind (q.imp (fun ys S3 q => by rw [if_pos q.1]; exact q.2) fun _ _ _ q => q)) fun _ _ _ q => q)
def mtcQ (r : MC) (d : D) (ρ : Ev) (S1 : Sto) : Out Fl := match d with
  | .str z => r z ρ S1
  | _ => .no
theorem Q_mtc {r : MC} : Ws (sMtc m r ρ S) N R B C E = Wp (m ρ S) (fun d S1 => Ws (mtcQ r d ρ S1) N R B C E) E := Q_sbind
theorem Q_mtcs {r : MC} {z : Str} : Ws (mtcQ r (.str z) ρ S) N R B C E = Ws (r z ρ S) N R B C E := rfl
theorem Q_mcN {z : Str} : Ws (mcN z ρ S) N R B C E = Ws (sNil ρ S) N R B C E := rfl
theorem Q_mcW {z : Str} {b : MS} : Ws (mcW b z ρ S) N R B C E = Ws (b ρ S) N R B C E := rfl
theorem ws_mcT {c z : Str} {b : MS} {r : MC} (h : z = c) (q : Ws (b ρ S) N R B C E) : Ws (mcC c b r z ρ S) N R B C E := by
  unfold mcC
  rw [if_pos h]
  exact q
theorem ws_mcF {c z : Str} {b : MS} {r : MC} (h : z ≠ c) (q : Ws (r z ρ S) N R B C E) : Ws (mcC c b r z ρ S) N R B C E := by
  unfold mcC
  rw [if_neg h]
  exact q
end
end PV
set_option Elab.async false
set_option linter.all false
set_option maxRecDepth 100000
set_option maxHeartbeats 4000000
local macro_rules | `(tactic| k_upd) => `(tactic| first | simp -dsimp -implicitDefEqProofs only [PV.Q_ok, PV.Q_ex, PV.Q_v0, PV.Q_vs, PV.Q_k, PV.Q_bin, PV.Q_una, PV.Q_cal, PV.Q_nil, PV.Q_cons, PV.Q_star, PV.Q_tst, PV.Q_tru, PV.Q_no, PV.Q_an, PV.Q_or, PV.Q_ifE, PV.Q_anE, PV.Q_orE, PV.Q_anD, PV.Q_orD, PV.Q_noE, PV.Q_chn, PV.Q_chD, PV.Q_t, PV.Q_f, PV.Q_T, PV.Q_F, PV.Q_tup, PV.Q_lst, PV.Q_lstM, PV.Q_cm, PV.Q_sm, PV.Q_mt, PV.Q_mtK, PV.Q_mthL, PV.Q_mthS, PV.Q_isStr, PV.Q_itemsF, PV.Q_sli, PV.Q_oNo, PV.Q_oSo, PV.Q_add, PV.Q_addI, PV.Q_sub, PV.Q_neg, PV.Q_eqI, PV.Q_neI, PV.Q_lt, PV.Q_le, PV.Q_gt, PV.Q_ge, PV.Q_isN, PV.Q_int, PV.Q_intb, PV.Q_abs, PV.Q_lenl, PV.Q_lent, PV.Q_tupl, PV.Q_tupt, PV.Q_listl, PV.Q_listt, PV.Q_onlyB, PV.Q_notB, PV.Q_ixt0, PV.Q_ixt1, PV.Q_ixt2, PV.Q_ixt3, PV.Q_ixl0, PV.Q_ixl1, PV.Q_ixl2, PV.Q_ixl3, PV.Q_seq, PV.Q_sNil, PV.Q_ret, PV.Q_retN, PV.Q_exp, PV.Q_set, PV.Q_if, PV.Q_brk, PV.Q_cnt, PV.Q_st, PV.Q_sf, PV.Q_nx, PV.Q_sT, PV.Q_sF, PV.Q_par, PV.Q_parQ, PV.Q_asg, PV.Q_asgN, PV.Q_asg2, PV.Q_asg3, PV.Q_asg4, PV.Q_aug, PV.Q_augQ, PV.Q_iSeq, PV.Q_seqL, PV.Q_seqT, PV.Q_seqS, PV.Q_iR1, PV.Q_iR2, PV.Q_iEn, PV.Q_iZp, PV.Q_zpl, PV.Q_zpt, PV.Q_frz, PV.Q_lns, PV.Q_dc, PV.Q_iEs, PV.Q_ens, PV.Q_enl, PV.Q_ent, PV.Q_par3, PV.Q_parc3, PV.Q_rai, PV.Q_rai0, PV.Q_rai1, PV.Q_rai2, PV.Q_gxs, PV.Q_bind, PV.Q_sbind, PV.Q_sT_NoneType_int, PV.Q_sT_NoneType_bool, PV.Q_sT_NoneType_str, PV.Q_sT_NoneType_list, PV.Q_sT_NoneType_tuple, PV.Q_sT_bool_int, PV.Q_sT_bool_bool, PV.Q_sT_bool_str, PV.Q_sT_bool_list, PV.Q_sT_bool_tuple, PV.Q_sT_int_int, PV.Q_sT_int_bool, PV.Q_sT_int_str, PV.Q_sT_int_list, PV.Q_sT_int_tuple, PV.Q_sT_str_int, PV.Q_sT_str_bool, PV.Q_sT_str_str, PV.Q_sT_str_list, PV.Q_sT_str_tuple, PV.Q_sT_tuple_int, PV.Q_sT_tuple_bool, PV.Q_sT_tuple_str, PV.Q_sT_tuple_list, PV.Q_sT_tuple_tuple, PV.Q_sT_list_int, PV.Q_sT_list_bool, PV.Q_sT_list_str, PV.Q_sT_list_list, PV.Q_sT_list_tuple, PV.Q_sT_dict_int, PV.Q_sT_dict_bool, PV.Q_sT_dict_str, PV.Q_sT_dict_list, PV.Q_sT_dict_tuple, PV.Q_nn_i, PV.Q_nn_n, PV.Q_nn_t, PV.Q_nn_l, PV.Q_nn_s, PV.Q_nn_b, PV.Q_nn_d, PV.Q_nn_o, PV.Q_mtKN, PV.Q_mtPK, PV.Q_mtc, PV.Q_mtcs, PV.Q_mcN, PV.Q_mcW, PV.truD, List.map_cons, List.map_nil, List.cons_append, List.nil_append, Nat.reduceSub, List.reduceReplicate, List.set_cons_zero, List.set_cons_succ, Bool.not_true, Bool.not_false, Bool.not_not, Bool.false_xor, Bool.true_xor, Bool.false_eq_true, and_self, true_and, and_true, PV.wipeD, PV.Tg.slots] | ((with_reducible apply PV.wp_ic); (focus rfl); (focus rfl); (focus rfl)) | ((with_reducible apply PV.wp_mtKNQ); (focus rfl); (focus rfl); (focus rfl)) | ((with_reducible apply PV.wp_mtPKQ); (focus rfl); (focus rfl); (focus rfl)) | ((with_reducible apply PV.ws_mcT); (focus rfl)) | ((with_reducible apply PV.ws_mcF); (focus decide +kernel)) | ((with_reducible apply PV.wp_fld); (focus rfl); (focus rfl); (focus rfl)) | ((with_reducible apply PV.wp_isi); (focus rfl)) | ((with_reducible apply PV.wp_isiA); (focus rfl)) | ((with_reducible apply PV.wp_lstQ); (focus exact Nat.le_of_ble_eq_true rfl)) | ((with_reducible apply PV.wp_tupQ); (focus exact Nat.le_of_ble_eq_true rfl)) | ((with_reducible apply PV.wp_lstMQ); (focus exact Nat.le_of_ble_eq_true rfl)) | ((with_reducible apply PV.wp_mtQ); (focus rfl); (focus rfl); (focus rfl)) | ((with_reducible apply PV.wp_mtKQ); (focus rfl); (focus rfl)) | ((with_reducible apply PV.wp_r1Q); (focus exact PV.near62_of (by omega) (by omega))) | ((with_reducible apply PV.wp_r2Q); (focus exact PV.near62_of (by omega) (by omega)); (focus exact PV.near62_of (by omega) (by omega))) | ((with_reducible apply PV.wp_ofLen); (focus rfl)) | ((with_reducible apply PV.wp_isx); (focus rfl)) | ((with_reducible apply PV.wp_fldx); (focus rfl)) | ((with_reducible apply PV.wp_kw); (focus rfl)) | ((with_reducible apply PV.ws_asgQ); (focus rfl)) | ((with_reducible apply PV.ex1); (focus rfl)) | ((with_reducible apply And.intro); (focus rfl)) | with_reducible exact PV.gq_same ⟨rfl, rfl⟩ | with_reducible exact ⟨rfl, rfl⟩)
namespace K07
open PySem PV
theorem pick_map {α : Type} {f : α → D} {xs : List α} {i : Nat} {d : D} (h : (xs.map f)[i]? = some d) : ∃ x, xs[i]? = some x ∧ d = f x := by
  rw [List.getElem?_map] at h
  obtain ⟨x, h1, h2⟩ := Option.map_eq_some_iff.mp h
  exact ⟨x, h1, h2.symm⟩
def lapD (ps : List Int) : D := .obj "Lap" [("pits", .tup (ps.map .int))]
theorem und_lap (ps : List Int) (n : Nat) : belowf n [("pits", .tup (ps.map .int))] = true := by simp [belowf, D.und, belows_ints]
inductive Vl : D → Prop
  | non : Vl .non
  | bl (b : Bool) : Vl (.bl b)
  | int (i : Int) : Vl (.int i)
  | str (z : Str) : Vl (.str z)
  | tup {xs : List D} (h : ∀ n, belows n xs = true) : Vl (.tup xs)
  | lst {xs : List D} (h : ∀ n, belows n xs = true) : Vl (.lst xs)
  | dic0 : Vl .dic0
  | lap (ps : List Int) : Vl (lapD ps)
theorem Vl.und {d : D} (h : Vl d) (n : Nat) : d.und n = true := by
  cases h with
  | tup h => exact h n
  | lst h => exact h n
  | lap ps => exact und_lap ps n
  | _ => rfl
theorem Vl.bel {d : D} (h : Vl d) (n : Nat) : belowf n [("value", d)] = true := by simp [belowf, h.und n]
def whole : D → Bool
  | .int _ => true
  | _ => false
theorem e_whole {d : D} (h : Vl d) (S : Sto) : F_is_whole [d] S = .ok (.bl (whole d)) S := by
  cases h <;> exact run_ok rfl rfl rfl
def btw (d : D) (lo hi : Int) : Bool := match d with
  | .int i => decide (lo ≤ i) && decide (i ≤ hi)
  | _ => false
theorem e_btw {d : D} (h : Vl d) (lo hi : Int) (S : Sto) : F_is_between [d, .int lo, .int hi] S = .ok (.bl (btw d lo hi)) S := by
  refine eq_of_wp (wp_dfn rfl ?_)
  (repeat k_upd)
  refine wp_eq (e_whole h S) ?_
  (repeat k_upd)
  cases h with
  | int i =>
    refine wp_t rfl ?_
    (repeat k_upd)
    by_cases c : lo ≤ i
    · refine wp_dt c ?_
      (repeat k_upd)
      refine gq_same ?_
      exact ⟨by simp [btw, c], rfl⟩
    · refine wp_df c ?_
      refine wp_ok (gq_same ?_)
      exact ⟨by simp [btw, c], rfl⟩
  | _ =>
    refine wp_f rfl ?_
    exact wp_ok (gq_same ⟨rfl, rfl⟩)
theorem btw_wp {i lo hi : Int} {S : Sto} {Q : D → Sto → Prop} {E : XQ} (h : lo ≤ i) (h' : i ≤ hi) (q : Q (.bl true) S) : Wp (F_is_between [.int i, .int lo, .int hi] S) Q E :=
  wp_eq ((e_btw (.int i) lo hi S).trans (by rw [show btw (.int i) lo hi = true by simp [btw, h, h']])) q
theorem cut_to {xs : List D} {r : Int} (h0 : 0 ≤ r) (h1 : r ≤ xs.length) : cutD xs none (some r) = xs.take r.toNat := by
  unfold cutD HT.sIx
  simp only
  rw [if_neg (by omega), Nat.min_eq_left (by omega)]
  simp
theorem init_lap {ps : List Int} (hne : ps ≠ []) (hl : ps.length ≤ 6) (h : ∀ x ∈ ps, 0 ≤ x ∧ x ≤ 5) (nd : ps.Nodup) {S : Sto} : F_LapD_initD (.loc S.length :: ps.map .int) (S ++ [Cell.ins "Lap" []]) = .ok .non (S ++ [Cell.ins "Lap" [("pits", .tup (ps.map .int))]]) := by
  refine eq_of_wp (wp_dfnV (by simp) (by simp; omega) ?_)
  rw [show (D.loc S.length :: ps.map D.int).take 1 ++ [D.tup ((D.loc S.length :: ps.map D.int).drop 1)] = [D.loc S.length, D.tup (ps.map D.int)] from rfl]
  refine wp_dfn rfl ?_
  (repeat k_upd)
  refine ws_df (by have := List.length_pos_iff.mpr hne; rw [List.length_map]; omega) ?_
  (repeat k_upd)
  refine ws_for (fun j ρ S' => S' = S ++ [Cell.ins "Lap" []] ∧ ∃ x2 x3, ρ = [some (.loc S.length), some (.tup (ps.map .int)), x2, x3]) (wp_eq (a := ((ps.zipIdx).map fun p => D.tup [.int (p.2 : Nat), .int p.1], (none : Option Nat))) (S := S ++ [Cell.ins "Lap" []]) ?_ ?_)
  · exact congrArg (fun z => Out.ok (z, (none : Option Nat)) (S ++ [Cell.ins "Lap" []])) (numbered_map D.int ps 0)
  refine ⟨fun _ _ _ _ => trivial, ⟨rfl, _, _, rfl⟩, ?_, ?_⟩
  · rintro j y hy ρ S' ⟨rfl, x2, x3, rfl⟩
    obtain ⟨p, hp, rfl⟩ := pick_map hy
    rw [List.getElem?_zipIdx] at hp
    obtain ⟨x, hx, rfl⟩ := Option.map_eq_some_iff.mp hp
    obtain ⟨hj, ex⟩ := List.getElem?_eq_some_iff.mp hx
    have hm : x ∈ ps := List.mem_of_getElem? hx
    obtain ⟨h0, h5⟩ := h x hm
    refine ⟨_, rfl, ?_⟩
    (repeat k_upd)
    refine btw_wp h0 h5 ?_
    (repeat k_upd)
    refine wp_eq (a := .tup ((ps.take j).map .int)) (S := S ++ [Cell.ins "Lap" []]) ?_ ?_
    · show Out.ok (D.tup (cutD (ps.map D.int) none (some ((0 + j : Nat) : Int)))) _ = _
      rw [cut_to (by omega) (by rw [List.length_map]; omega), show ((0 + j : Nat) : Int).toNat = j by omega, List.map_take]
    (repeat k_upd)
    refine wp_eq (in_tup x _ _) ?_
    have hn : x ∉ ps.take j := fun hm => by
      obtain ⟨i, hi, e⟩ := List.mem_iff_getElem.mp hm
      rw [List.length_take] at hi
      rw [List.getElem_take] at e
      have := (List.getElem_inj nd).mp (e.trans ex.symm)
      omega
    rw [decide_eq_false hn]
    (repeat k_upd)
    exact ⟨_, _, rfl⟩
  · rintro ρ S' ⟨rfl, x2, x3, rfl⟩
    (repeat k_upd)
    refine ws_fld ?_
    (repeat k_upd)
    refine ⟨_, _, _, rfl, end_at', ⟨rfl, by decide⟩, ?_⟩
    rw [end_set]
    (repeat k_upd)
    exact gq_len (by simp) ⟨rfl, rfl⟩
theorem mk_lap {ps : List Int} (hne : ps ≠ []) (hl : ps.length ≤ 6) (h : ∀ x ∈ ps, 0 ≤ x ∧ x ≤ 5) (nd : ps.Nodup) {S : Sto} : mkF "Lap" F_LapD_initD (ps.map .int) S = .ok (lapD ps) S :=
  mkF_of (fs := [("pits", .tup (ps.map .int))]) ((init_lap hne hl h nd).trans (by simp)) (und_lap _ _)
theorem x_init {ds : List D} {pre : List Int} {d : D} (hl : ds.length ≤ 6) (hd : ds[pre.length]? = some d) (hp : ds.take pre.length = pre.map .int) (h : ∀ x ∈ pre, 0 ≤ x ∧ x ≤ 5) (nd : pre.Nodup) (hv : Vl d) (hb : btw d 0 5 = false ∨ ∃ i, d = .int i ∧ i ∈ pre) {S : Sto} :
    F_LapD_initD (.loc S.length :: ds) (S ++ [Cell.ins "Lap" []]) = .ex "BadPit" [("value", d)] (S ++ [Cell.ins "Lap" []]) := by
  have hlt := (List.getElem?_eq_some_iff.mp hd).1
  refine ex_of_wp (wp_dfnV (by simp) (by simp; omega) ?_)
  rw [show (D.loc S.length :: ds).take 1 ++ [D.tup ((D.loc S.length :: ds).drop 1)] = [D.loc S.length, D.tup ds] from rfl]
  refine wp_dfn rfl ?_
  (repeat k_upd)
  refine ws_df (by omega) ?_
  (repeat k_upd)
  refine ws_for (fun j ρ S' => S' = S ++ [Cell.ins "Lap" []] ∧ j ≤ pre.length ∧ ∃ x2 x3, ρ = [some (.loc S.length), some (.tup ds), x2, x3]) (wp_eq (a := ((ds.zipIdx).map fun p => D.tup [.int (p.2 : Nat), p.1], (none : Option Nat))) (S := S ++ [Cell.ins "Lap" []]) ?_ ?_)
  · have e := numbered_map (fun d : D => d) ds 0
    rw [show ds.map (fun d : D => d) = ds by simp] at e
    exact congrArg (fun z => Out.ok (z, (none : Option Nat)) (S ++ [Cell.ins "Lap" []])) e
  refine ⟨fun _ _ _ _ => trivial, ⟨rfl, Nat.zero_le _, _, _, rfl⟩, ?_, ?_⟩
  · rintro j y hy ρ S' ⟨rfl, hj, x2, x3, rfl⟩
    obtain ⟨p, hp2, rfl⟩ := pick_map hy
    rw [List.getElem?_zipIdx] at hp2
    obtain ⟨x, hx, rfl⟩ := Option.map_eq_some_iff.mp hp2
    have take_j : ds.take j = (pre.take j).map .int := by
      rw [List.map_take, ← hp, List.take_take, Nat.min_eq_left hj]
    have cut_j : ∀ T : Sto, Out.ok (D.tup (cutD ds none (some ((0 + j : Nat) : Int)))) T = Out.ok (D.tup ((pre.take j).map .int)) T := fun T => by
      rw [cut_to (by omega) (by omega), show ((0 + j : Nat) : Int).toNat = j by omega, take_j]
    refine ⟨_, rfl, ?_⟩
    (repeat k_upd)
    by_cases c : j = pre.length
    · subst c
      rw [hd] at hx
      cases hx
      rcases hb with hb | ⟨i, rfl, hi⟩
      · refine wp_eq (e_btw hv 0 5 _) ?_
        rw [hb]
        (repeat k_upd)
      · obtain ⟨h0, h5⟩ := h i hi
        refine btw_wp h0 h5 ?_
        (repeat k_upd)
        refine wp_eq (a := .tup ((pre.take pre.length).map .int)) (S := S ++ [Cell.ins "Lap" []]) (cut_j _) ?_
        (repeat k_upd)
        refine wp_eq (in_tup i _ _) ?_
        rw [List.take_length, decide_eq_true hi]
        (repeat k_upd)
    · have hj' : j < pre.length := by omega
      have ex : x = .int pre[j] := by
        have e1 : (ds.take pre.length)[j]? = some x := by rw [List.getElem?_take, if_pos hj', hx]
        rw [hp, List.getElem?_map, List.getElem?_eq_getElem hj'] at e1
        cases e1
        rfl
      subst ex
      obtain ⟨h0, h5⟩ := h _ (List.getElem_mem hj')
      refine btw_wp h0 h5 ?_
      (repeat k_upd)
      refine wp_eq (a := .tup ((pre.take j).map .int)) (S := S ++ [Cell.ins "Lap" []]) (cut_j _) ?_
      (repeat k_upd)
      refine wp_eq (in_tup _ _ _) ?_
      have hn : pre[j] ∉ pre.take j := fun hm => by
        obtain ⟨i, hi, e⟩ := List.mem_iff_getElem.mp hm
        rw [List.length_take] at hi
        rw [List.getElem_take] at e
        have := (List.getElem_inj nd).mp e
        omega
      rw [decide_eq_false hn]
      (repeat k_upd)
      exact ⟨by omega, _, _, rfl⟩
  · rintro ρ S' ⟨rfl, hj, x2, x3, rfl⟩
    rw [List.length_map, List.length_zipIdx] at hj
    exact absurd hj (by omega)
theorem x_lap {ds : List D} {pre : List Int} {d : D} (hl : ds.length ≤ 6) (hd : ds[pre.length]? = some d) (hp : ds.take pre.length = pre.map .int) (h : ∀ x ∈ pre, 0 ≤ x ∧ x ≤ 5) (nd : pre.Nodup) (hv : Vl d) (hb : btw d 0 5 = false ∨ ∃ i, d = .int i ∧ i ∈ pre) {S : Sto} :
    mkF "Lap" F_LapD_initD ds S = .ex "BadPit" [("value", d)] S := ex_of_wp (wp_mkx (T := [Cell.ins "Lap" []]) (x_init hl hd hp h nd hv hb) (hv.bel _) ⟨rfl, rfl, rfl⟩)
theorem x_none {S : Sto} : mkF "Lap" F_LapD_initD [] S = .ex "Nothing" [] S := by
  refine ex_of_wp (wp_mkx (T := [Cell.ins "Lap" []]) ?_ rfl ⟨rfl, rfl, rfl⟩)
  refine ex_of_wp (wp_dfnV (Nat.le_of_ble_eq_true rfl) (Nat.le_of_ble_eq_true rfl) ?_)
  rw [show [D.loc S.length].take 1 ++ [D.tup ([D.loc S.length].drop 1)] = [D.loc S.length, D.tup []] from rfl]
  refine wp_dfn rfl ?_
  (repeat k_upd)
  refine ws_dt rfl ?_
  (repeat k_upd)
end K07
set_option Elab.async false
set_option linter.all false
set_option maxRecDepth 100000
set_option maxHeartbeats 4000000
namespace K07
open PySem PV
theorem dB : DrawB F_law_draw := drawG_of (c1 := 19) (c2 := 950706376) (c3 := 47) (by decide) (by decide) (by decide)
theorem pB : PickB F_law_pick := pickB_of dB
theorem w_bag {cs : List Int} (h : cs.length ≤ 63) {Q : D → Sto → Prop} {E : XQ} (q : ∀ S', Bag S' 0 → S'.length = 1 → Q (.loc 0) S') : Wp (F_law_bag [.src (cs.map .int)] []) Q E := bag_ok (c0 := 31) (c1 := 950706376) (c2 := 47) (by decide) (by decide) (by decide) h q
abbrev lap5 : D := lapD [5, 0, 2]
theorem mk5 (S : Sto) : mkF "Lap" F_LapD_initD [.int 5, .int 0, .int 2] S = .ok lap5 S := mk_lap (ps := [5, 0, 2]) (by decide) (by decide) (by decide) (by decide)
def lowB (d : D) (lo : Int) : Bool := match d with
  | .int i => decide (lo ≤ i)
  | _ => false
theorem x_seeds {d : D} {lo : Int} (hv : Vl d) (hb : lowB d lo = false) {S : Sto} : F_need_seeds [d, .int lo] S = .ex "BadNumber" [("value", d)] S := by
  refine ex_of_wp (wp_dfn rfl ?_)
  (repeat k_upd)
  have ew := e_whole hv S
  cases hv with
  | int i =>
    have hi : i < lo := by
      have : ¬ lo ≤ i := by simpa [lowB] using hb
      omega
    refine wp_eq (a := .bl true) (S := S) ew ?_
    (repeat k_upd)
    refine ws_dt hi ?_
    (repeat k_upd)
  | _ =>
    refine wp_eq (a := .bl false) (S := S) ew ?_
    (repeat k_upd)
theorem x_laid {d : D} (hv : Vl d) (hb : lowB d 0 = false) {S : Sto} : F_Lap_laid [lap5, d] S = .ex "BadNumber" [("value", d)] S := by
  refine ex_of_wp (wp_dfn rfl ?_)
  (repeat k_upd)
  refine wp_exq (x_seeds hv hb) ?_
  (repeat k_upd)
theorem x_each {d : D} (hv : Vl d) (hb : lowB d 0 = false) {S : Sto} : F_Lap_each [lap5, d] S = .ex "BadNumber" [("value", d)] S := by
  refine ex_of_wp (wp_dfn rfl ?_)
  (repeat k_upd)
  refine wp_exq (x_seeds hv hb) ?_
  (repeat k_upd)
theorem x_last {d : D} (hv : Vl d) (hb : lowB d 1 = false) {S : Sto} : F_Lap_last [lap5, d] S = .ex "BadNumber" [("value", d)] S := by
  refine ex_of_wp (wp_dfn rfl ?_)
  (repeat k_upd)
  refine wp_exq (x_seeds hv hb) ?_
  (repeat k_upd)
theorem x_rdiv {d : D} (hv : Vl d) (hb : lowB d 0 = false) {S : Sto} : F_LapD_rfloordivD [lap5, d] S = .ex "BadNumber" [("value", d)] S := by
  refine ex_of_wp (wp_dfn rfl ?_)
  (repeat k_upd)
  refine wp_exq (x_seeds hv hb) ?_
  (repeat k_upd)
theorem x_rmod {d : D} (hv : Vl d) (hb : lowB d 0 = false) {S : Sto} : F_LapD_rmodD [lap5, d] S = .ex "BadNumber" [("value", d)] S := by
  refine ex_of_wp (wp_dfn rfl ?_)
  (repeat k_upd)
  refine wp_exq (x_seeds hv hb) ?_
  (repeat k_upd)
theorem x_at {d : D} (hv : Vl d) (hb : btw d 0 2 = false) {S : Sto} : F_LapD_getitemD [lap5, d] S = .ex "BadPit" [("value", d)] S := by
  refine ex_of_wp (wp_dfn rfl ?_)
  (repeat k_upd)
  refine wp_eq (a := .bl false) (S := S) ((e_btw hv 0 2 S).trans (by rw [hb])) ?_
  (repeat k_upd)
section
variable {d : D} {S : Sto}
theorem h_pit : F_law_heard (.ex "BadPit" [("value", d)] S) S = .ok (.tup [.str "pit", d]) S := by
  refine eq_of_wp ?_
  show Wp (gcO S (fin (R_law_heard [none, some (.exc "BadPit" [("value", d)]), none] S))) _ _
  refine wp_gc ?_
  unfold R_law_heard
  (repeat k_upd)
theorem h_num : F_law_heard (.ex "BadNumber" [("value", d)] S) S = .ok (.tup [.str "number", d]) S := by
  refine eq_of_wp ?_
  show Wp (gcO S (fin (R_law_heard [none, some (.exc "BadNumber" [("value", d)]), none] S))) _ _
  refine wp_gc ?_
  unfold R_law_heard
  (repeat k_upd)
theorem h_nothing : F_law_heard (.ex "Nothing" [] S) S = .ok (.tup [.str "nothing", .non]) S := by
  refine eq_of_wp ?_
  show Wp (gcO S (fin (R_law_heard [none, some (.exc "Nothing" []), none] S))) _ _
  refine wp_gc ?_
  unfold R_law_heard
  (repeat k_upd)
end
theorem e_eq5 (S : Sto) : F_LapD_eqD [lap5, lap5] S = .ok (.bl true) S := by
  refine eq_of_wp (wp_dfn rfl ?_)
  (repeat k_upd)
  refine wp_eq (a := .bl true) (S := S) rfl ?_
  (repeat k_upd)
theorem rep_m {x : D} {xs : List D} {ps : List PyData} (h : toMs (x :: xs) = some ps) (c : reprT (.list ps) = true) {g : Fn} (S : Sto) : ∃ z, reprM g [.lst (x :: xs)] S = .ok (.str z) S := ⟨(PyData.list ps).shown, by
  unfold reprM
  simp only [h, if_pos c]⟩
theorem rep_q {xs : List D} {ps : List PyData} (h : toQs xs = some ps) (c : reprT (.tuple ps) = true) {g : Fn} (S : Sto) : ∃ z, reprQ g [.tup xs] S = .ok (.str z) S := ⟨(PyData.tuple ps).shown, by
  unfold reprQ
  simp only [h, if_pos c]⟩
theorem rep_b {xs : List D} {p : PyData} (h0 : toQs xs = none) (h : toP (.tup xs) = some p) (c : reprOk p = true) (S : Sto) : ∃ z, reprQ (reprI reprB) [.tup xs] S = .ok (.str z) S := ⟨p.shown, by
  unfold reprQ
  simp only [h0]
  show reprB [.tup xs] S = _
  unfold reprB
  simp only [h, if_pos c]⟩
end K07
set_option Elab.async false
set_option linter.all false
set_option maxRecDepth 100000
set_option maxHeartbeats 4000000
namespace K07
open PySem PV
def odds : List D := [.non, .bl true, .bl false, .int 6, .int (-1), .int (10 ^ 20), .str "0", .tup [.int 1], .lst [.int 2], .dic0]
theorem odds_ok {d : D} (h : d ∈ odds) : Vl d ∧ btw d 0 5 = false := by
  simp only [odds, List.mem_cons, List.not_mem_nil, or_false] at h
  rcases h with rfl | rfl | rfl | rfl | rfl | rfl | rfl | rfl | rfl | rfl
  · exact ⟨.non, rfl⟩
  · exact ⟨.bl _, rfl⟩
  · exact ⟨.bl _, rfl⟩
  · exact ⟨.int _, rfl⟩
  · exact ⟨.int _, rfl⟩
  · exact ⟨.int _, by simp [btw]⟩
  · exact ⟨.str _, rfl⟩
  · exact ⟨.tup fun _ => rfl, rfl⟩
  · exact ⟨.lst fun _ => rfl, rfl⟩
  · exact ⟨.dic0, rfl⟩
theorem odds_rep {d : D} (h : d ∈ odds) (S : Sto) : ∃ z, reprQ (reprI reprB) [.tup [.str "pit", d]] S = .ok (.str z) S := by
  simp only [odds, List.mem_cons, List.not_mem_nil, or_false] at h
  rcases h with rfl | rfl | rfl | rfl | rfl | rfl | rfl | rfl | rfl | rfl
  case inr.inr.inr.inr.inr.inr.inr.inr.inl => exact rep_b rfl rfl (by decide +kernel) S
  all_goals exact rep_q rfl (by decide +kernel) S
def Rt (rs : List Int) : Prop := rs.length = 3 ∧ (∀ x ∈ rs, 0 ≤ x ∧ x ≤ 5) ∧ rs.Nodup
theorem rt_cut {n : Int} (h0 : 0 ≤ n) (h1 : n < 3) : ∃ rs : List Int, Rt rs ∧ ∀ S : Sto, slG (.lst [.int 4, .int 0, .int 3, .int 1, .int 5, .int 2]) (some n) none S = .ok (.lst ((([4, 0, 3, 1, 5, 2] : List Int).drop n.toNat).map .int)) S ∧ slG (.lst ((([4, 0, 3, 1, 5, 2] : List Int).drop n.toNat).map .int)) none (some 3) S = .ok (.lst (rs.map .int)) S := by
  obtain rfl | rfl | rfl : n = 0 ∨ n = 1 ∨ n = 2 := by omega
  · exact ⟨[4, 0, 3], ⟨rfl, by decide, by decide⟩, fun S => ⟨rfl, rfl⟩⟩
  · exact ⟨[0, 3, 1], ⟨rfl, by decide, by decide⟩, fun S => ⟨rfl, rfl⟩⟩
  · exact ⟨[3, 1, 5], ⟨rfl, by decide, by decide⟩, fun S => ⟨rfl, rfl⟩⟩
theorem x_three {a b c e : D} {S : Sto} (h : mkF "Lap" F_LapD_initD [a, b, c] S = .ex "BadPit" [("value", e)] S) : F_law_three [.lst [a, b, c]] S = .ex "BadPit" [("value", e)] S := by
  refine ex_of_wp (wp_dfn rfl ?_)
  (repeat k_upd)
  refine wp_exq h ?_
  (repeat k_upd)
theorem ixL {S : Sto} {n : Nat} {xs : List D} {i : Int} {x : D} (h : S[n]? = some (.lst xs)) (e : L2.atI xs i = some x) : ixG (.loc n) (.int i) S = .ok x S := by
  show (match S[n]? with | some (.lst xs) => (match L2.atI xs i with | some d => Out.ok d S | none => .no) | _ => .no) = _
  rw [h]
  simp only [e]
theorem x_threeL {a b c e : D} {S : Sto} {n : Nat} (hn : S[n]? = some (.lst [a, b, c])) (h : mkF "Lap" F_LapD_initD [a, b, c] S = .ex "BadPit" [("value", e)] S) : F_law_three [.loc n] S = .ex "BadPit" [("value", e)] S := by
  refine ex_of_wp (wp_dfn rfl ?_)
  (repeat k_upd)
  refine wp_eq (ixL hn (x := a) rfl) ?_
  (repeat k_upd)
  refine wp_eq (ixL hn (x := b) rfl) ?_
  (repeat k_upd)
  refine wp_eq (ixL hn (x := c) rfl) ?_
  (repeat k_upd)
  refine wp_exq h ?_
  (repeat k_upd)
noncomputable def rest : MS := (sSeq (sIf (tst (bin (eqG true) (cal (reprQ (reprI reprB)) (aCons (lamc F_law_heard (cal F_law_three (aCons (v 5) aNil))) aNil)) (cal (reprQ (reprI reprB)) (aCons (tupE (aCons (k (.str "pit")) (aCons (v 6) aNil))) aNil)))) (sSeq (sRet (k (.bl false))) sNil) sNil) (sSeq (sSet 7 (bin ixG (lstE (aCons (v 1) (aCons (lstE (aCons (bin ixG (v 1) (k (.int 0))) (aCons (bin ixG (v 1) (k (.int 0))) (aCons (v 4) aNil)))) (aCons (lstE (aCons (bin ixG (v 1) (k (.int 1))) (aCons (bin ixG (v 1) (k (.int 0))) (aCons (bin ixG (v 1) (k (.int 1))) aNil)))) aNil)))) (bin (addG) (k (.int 1)) (cal F_law_draw (aCons (v 0) (aCons (k (.int 2)) aNil)))))) (sSeq (sRet (bin (eqG false) (lamc F_law_heard (cal F_law_three (aCons (v 7) aNil))) (tupE (aCons (k (.str "pit")) (aCons (bin ixG (v 7) (k (.int 0))) aNil))))) sNil)))
theorem ne_str (z : Str) (S : Sto) : eqG true (.str z) (.str z) S = .ok (.bl false) S := by
  unfold eqG
  rw [eqD_str]
  simp
theorem ints3 {rs : List Int} (h : Rt rs) : ∃ a b c, rs = [a, b, c] := by
  obtain ⟨h, _⟩ := h
  match rs, h with
  | [a, b, c], _ => exact ⟨a, b, c, rfl⟩
theorem eqD_refl_pit {r : Int} (h : 0 ≤ r ∧ r ≤ 5) (S : Sto) : eqG false (.tup [.str "pit", .int r]) (.tup [.str "pit", .int r]) S = .ok (.bl true) S := by
  unfold eqG
  have e : eqD (.tup [.str "pit", .int r]) (.tup [.str "pit", .int r]) = some true := by
    obtain rfl | rfl | rfl | rfl | rfl | rfl : r = 0 ∨ r = 1 ∨ r = 2 ∨ r = 3 ∨ r = 4 ∨ r = 5 := by omega
    all_goals decide +kernel
  rw [e]
  rfl
theorem w_rest {rs : List Int} {d x y z : D} {S : Sto} {at_ : Nat} {x2 x3 x7 : Option D} {n : Nat} (hr : Rt rs) (hd : d ∈ odds) (ha : at_ < 3) (hn : S[n]? = some (.lst [x, y, z])) (h0 : 0 < n) (hx : [x, y, z][at_]? = some d) (ht : [x, y, z].take at_ = (rs.take at_).map .int) (hb : Bag S 0)
    {N : Ev → Sto → Prop} {R : D → Sto → Prop} {B C : Ev → Sto → Prop} {E : XQ} (q : ∀ S', SameBag 0 S S' → Bag S' 0 → R (.bl true) S') {b : MS} (hbb : b = rest) : Ws (b [some (.loc 0), some (.lst (rs.map .int)), x2, x3, some d, some (.loc n), some d, x7] S) N R B C E := by
  subst hbb
  unfold rest
  obtain ⟨a, b, c, rfl⟩ := ints3 hr
  rw [show ([a, b, c].map D.int) = [.int a, .int b, .int c] from rfl]
  obtain ⟨v1, v2⟩ := odds_ok hd
  obtain ⟨hl, hrs, nd⟩ := id hr
  obtain ⟨zz, hz⟩ := odds_rep hd S
  have lt3 : (([a, b, c] : List Int).take at_).length = at_ := by rw [List.length_take]; show min at_ 3 = at_; omega
  have hbad : ∀ T : Sto, mkF "Lap" F_LapD_initD [x, y, z] T = .ex "BadPit" [("value", d)] T := fun T =>
    x_lap (pre := [a, b, c].take at_) (Nat.le_of_ble_eq_true rfl) (by rw [lt3]; exact hx) (by rw [lt3]; exact ht) (fun i hi => hrs i (List.mem_of_mem_take hi)) (nd.sublist (List.take_sublist _ _)) v1 (.inl v2)
  (repeat k_upd)
  refine wp_lamc ?_
  (repeat k_upd)
  refine wp_exq (x_threeL hn (hbad S)) ?_
  refine wp_eq h_pit ?_
  (repeat k_upd)
  refine wp_eq hz ?_
  (repeat k_upd)
  refine wp_eq hz ?_
  (repeat k_upd)
  refine wp_eq (ne_str zz S) ?_
  (repeat k_upd)
  have ha5 := hrs a (by simp)
  have hb5 := hrs b (by simp)
  have hab : a ≠ b := fun e => by rw [e] at nd; simp at nd
  refine dB (m := 2) hb (by decide) (by decide) fun r S1 r0 r1 s1 p1 => ?_
  obtain rfl | rfl : r = 0 ∨ r = 1 := by omega
  · (repeat k_upd)
    refine wp_ixl (x := .lst [.int a, .int a, d]) rfl ?_
    (repeat k_upd)
    refine wp_lamc ?_
    (repeat k_upd)
    refine wp_exq (x_three (x_lap (pre := [a]) (d := .int a) (Nat.le_of_ble_eq_true rfl) rfl rfl (by simpa using ha5) (by simp) (.int _) (.inr ⟨a, rfl, by simp⟩))) ?_
    refine wp_eq h_pit ?_
    (repeat k_upd)
    refine wp_eq (eqD_refl_pit ha5 _) ?_
    exact q _ s1 p1
  · (repeat k_upd)
    refine wp_ixl (x := .lst [.int b, .int a, .int b]) rfl ?_
    (repeat k_upd)
    refine wp_lamc ?_
    (repeat k_upd)
    refine wp_exq (x_three (x_lap (pre := [b, a]) (d := .int b) (Nat.le_of_ble_eq_true rfl) rfl rfl (by intro i hi; simp at hi; rcases hi with rfl | rfl <;> assumption) (by simp; exact fun e => hab e.symm) (.int _) (.inr ⟨b, rfl, by simp⟩))) ?_
    refine wp_eq h_pit ?_
    (repeat k_upd)
    refine wp_eq (eqD_refl_pit hb5 _) ?_
    exact q _ s1 p1
noncomputable def mid : MS := (sSeq (sIf (tAn (tst (bin (gtG) (v 3) (v 2))) (tst (bin (eqG false) (cal F_law_draw (aCons (v 0) (aCons (k (.int 2)) aNil))) (k (.int 0))))) (sSeq (sSub (v 5) (v 3) (cal F_law_pick (aCons (v 0) (aCons (lstE (aCons (k .non) (aCons (k (.int 7)) (aCons (bin ixG (v 1) (k (.int 0))) aNil)))) aNil)))) sNil) sNil) (sSeq (sIf (tst (bin (eqG true) (cal (reprQ (reprI reprB)) (aCons (lamc F_law_heard (cal F_law_three (aCons (v 5) aNil))) aNil)) (cal (reprQ (reprI reprB)) (aCons (tupE (aCons (k (.str "pit")) (aCons (v 6) aNil))) aNil)))) (sSeq (sRet (k (.bl false))) sNil) sNil) (sSeq (sSet 7 (bin ixG (lstE (aCons (v 1) (aCons (lstE (aCons (bin ixG (v 1) (k (.int 0))) (aCons (bin ixG (v 1) (k (.int 0))) (aCons (v 4) aNil)))) (aCons (lstE (aCons (bin ixG (v 1) (k (.int 1))) (aCons (bin ixG (v 1) (k (.int 0))) (aCons (bin ixG (v 1) (k (.int 1))) aNil)))) aNil)))) (bin (addG) (k (.int 1)) (cal F_law_draw (aCons (v 0) (aCons (k (.int 2)) aNil)))))) (sSeq (sRet (bin (eqG false) (lamc F_law_heard (cal F_law_three (aCons (v 7) aNil))) (tupE (aCons (k (.str "pit")) (aCons (bin ixG (v 7) (k (.int 0))) aNil))))) sNil))))
theorem w_mid {rs : List Int} {d x y z : D} {S : Sto} {j : Nat} {l : Int} {x7 : Option D} (hr : Rt rs) (hd : d ∈ odds) (ha : j < 3) (l0 : 0 ≤ l) (l1 : l < 3) (hx : [x, y, z][j]? = some d) (ht : [x, y, z].take j = (rs.take j).map .int) (hb : Bag S 0)
    {N : Ev → Sto → Prop} {R : D → Sto → Prop} {B C : Ev → Sto → Prop} {E : XQ} (q : ∀ T c, SameBag 0 S T → Bag T 0 → R (.bl true) (T ++ [c])) {b : MS} (hbb : b = mid) : Ws (b [some (.loc 0), some (.lst (rs.map .int)), some (.int (j : Nat)), some (.int l), some d, some (.loc S.length), some d, x7] (S ++ [.lst [x, y, z]])) N R B C E := by
  subst hbb
  unfold mid
  have l4 := hb.lt
  have fin : ∀ (T : Sto) (x y z : D), SameBag 0 S T → Bag T 0 → [x, y, z][j]? = some d → [x, y, z].take j = (rs.take j).map .int → ∀ x2 x3 x7 : Option D,
      Ws (rest [some (.loc 0), some (.lst (rs.map .int)), x2, x3, some d, some (.loc S.length), some d, x7] (T ++ [.lst [x, y, z]])) N R B C E := fun T x y z sT pT hx ht x2 x3 x7 => by
    have l2 := pT.lt
    refine w_rest hr hd ha (n := S.length) (by rw [← sT.len]; exact end_at') l4 hx ht pT.app (fun S' s' p' => ?_) rfl
    obtain ⟨T2, rfl, sT2⟩ := samebag_app pT s'
    exact q T2 _ (sT.trans sT2) (bag_cut (by rw [sT2.len]; exact l2) p')
  obtain ⟨q0, q1, q2, rfl⟩ := ints3 hr
  rw [show ([q0, q1, q2].map D.int) = [.int q0, .int q1, .int q2] from rfl]
  by_cases c : (j : Int) < l
  · (repeat k_upd)
    refine wp_dt c ?_
    (repeat k_upd)
    refine dB (m := 2) hb.app (by decide) (by decide) fun r S1 r0 r1 s1 p1 => ?_
    obtain ⟨T1, rfl, sT1⟩ := samebag_app hb s1
    have pT1 := bag_cut (by rw [sT1.len]; exact l4) p1
    (repeat k_upd)
    by_cases c2 : r = 0
    · refine ws_dt c2 ?_
      refine ws_seq ?_
      refine ws_sub ?_
      (repeat k_upd)
      refine pB p1 (Nat.le_of_ble_eq_true rfl) (Nat.le_of_ble_eq_true rfl) fun i w S2 hw s2 p2 => ?_
      obtain ⟨T2, rfl, sT2⟩ := samebag_app pT1 s2
      have pT2 := bag_cut (by rw [sT2.len, sT1.len]; exact l4) p2
      have l2 := pT2.lt
      have n2 : T2.length = S.length := by rw [sT2.len, sT1.len]
      have at2 : (T2 ++ [Cell.lst [x, y, z]])[S.length]? = some (.lst [x, y, z]) := by rw [← n2]; exact end_at'
      have set2 : ∀ c : Cell, (T2 ++ [Cell.lst [x, y, z]]).set S.length c = T2 ++ [c] := fun c => by rw [← n2]; exact end_set
      have hx2 : ∀ k : Nat, j < k → ([x, y, z].set k w)[j]? = some d := fun k hk => by rw [List.getElem?_set_ne (by omega)]; exact hx
      have ht2 : ∀ k : Nat, j < k → ([x, y, z].set k w).take j = (([q0, q1, q2] : List Int).take j).map .int := fun k hk => by rw [List.take_set_of_le (by omega)]; exact ht
      obtain rfl | rfl : l = 1 ∨ l = 2 := by omega
      · refine wp_eq (a := .loc S.length) (S := T2 ++ [Cell.lst [x, y, z]]) rfl ?_
        refine wp_eq (a := .int 1) (S := T2 ++ [Cell.lst [x, y, z]]) rfl ?_
        refine ⟨_, _, _, 1, rfl, rfl, at2, rfl, ?_⟩
        rw [set2]
        exact ws_nil (fin T2 x w z (sT1.trans sT2) pT2 (hx2 1 (by omega)) (ht2 1 (by omega)) _ _ _)
      · refine wp_eq (a := .loc S.length) (S := T2 ++ [Cell.lst [x, y, z]]) rfl ?_
        refine wp_eq (a := .int 2) (S := T2 ++ [Cell.lst [x, y, z]]) rfl ?_
        refine ⟨_, _, _, 2, rfl, rfl, at2, rfl, ?_⟩
        rw [set2]
        exact ws_nil (fin T2 x y w (sT1.trans sT2) pT2 (hx2 2 (by omega)) (ht2 2 (by omega)) _ _ _)
    · refine ws_df c2 ?_
      exact ws_nil (fin T1 x y z sT1 pT1 hx ht _ _ _)
  · (repeat k_upd)
    refine wp_df c ?_
    refine wp_ok ?_
    refine ws_f rfl ?_
    exact ws_nil (fin S x y z (.refl hb) hb hx ht _ _ _)
theorem w_pits {S : Sto} {Q : D → Sto → Prop} {E : XQ} (h : Bag S 0) (q : ∀ S', SameBag 0 S S' → Bag S' 0 → Q (.bl true) S') : Wp (F_law_pits_right [.loc 0] S) Q E := by
  refine wp_dfn rfl ?_
  (repeat k_upd)
  refine dB (m := 3) h (by decide) (by decide) fun n S1 n0 n1 s1 p1 => ?_
  obtain ⟨rs, hr, e1⟩ := rt_cut n0 n1
  (repeat k_upd)
  refine wp_eq (e1 S1).1 ?_
  (repeat k_upd)
  refine wp_eq (e1 S1).2 ?_
  (repeat k_upd)
  refine dB (m := 3) p1 (by decide) (by decide) fun a S2 a0 a1 s2 p2 => ?_
  (repeat k_upd)
  refine dB (m := 3) p2 (by decide) (by decide) fun l S3 l0 l1 s3 p3 => ?_
  (repeat k_upd)
  refine wp_pow (by decide) ?_
  (repeat k_upd)
  refine wp_eq (a := .dic0) (S := S3) rfl ?_
  (repeat k_upd)
  refine pB p3 (Nat.le_of_ble_eq_true rfl) (Nat.le_of_ble_eq_true rfl) fun i d S4 hd s4 p4 => ?_
  have hd : d ∈ odds := pick_mem hd
  obtain ⟨r0, r1, r2, rfl⟩ := ints3 hr
  have s14 := ((s1.trans s2).trans s3).trans s4
  (repeat k_upd)
  refine wp_eq (a := .loc S4.length) (S := S4 ++ [.lst [.int r0, .int r1, .int r2]]) rfl ?_
  (repeat k_upd)
  have l4 := p4.lt
  obtain ⟨r01, r02, rl⟩ := id hr
  have key : ∀ (x y z : D) (j : Nat), j < 3 → [x, y, z][j]? = some d → [x, y, z].take j = (([r0, r1, r2] : List Int).take j).map .int → Ws (mid [some (.loc 0), some (.lst (([r0, r1, r2] : List Int).map .int)), some (.int (j : Nat)), some (.int l), some d, some (.loc S4.length), some d, none] (S4 ++ [.lst [x, y, z]])) (fun ρ S' => Gq S Q E .non S') (Gq S Q E) (fun _ _ => False) (fun _ _ => False) (Gx S Q E) := fun x y z j hj hx ht =>
    w_mid hr hd hj l0 l1 hx ht p4 (fun T c sT pT => gq_bag (s14.trans sT) rfl (q T (s14.trans sT) pT)) rfl
  obtain rfl | rfl | rfl : a = 0 ∨ a = 1 ∨ a = 2 := by omega
  · refine ws_sub ?_
    refine wp_eq (a := d) (S := S4 ++ [.lst [.int r0, .int r1, .int r2]]) rfl ?_
    refine wp_eq (a := .loc S4.length) (S := S4 ++ [.lst [.int r0, .int r1, .int r2]]) rfl ?_
    refine wp_eq (a := .int 0) (S := S4 ++ [.lst [.int r0, .int r1, .int r2]]) rfl ?_
    refine ⟨_, _, _, 0, rfl, rfl, end_at', rfl, ?_⟩
    rw [end_set]
    exact key d (.int r1) (.int r2) 0 (by decide) rfl rfl
  · refine ws_sub ?_
    refine wp_eq (a := d) (S := S4 ++ [.lst [.int r0, .int r1, .int r2]]) rfl ?_
    refine wp_eq (a := .loc S4.length) (S := S4 ++ [.lst [.int r0, .int r1, .int r2]]) rfl ?_
    refine wp_eq (a := .int 1) (S := S4 ++ [.lst [.int r0, .int r1, .int r2]]) rfl ?_
    refine ⟨_, _, _, 1, rfl, rfl, end_at', rfl, ?_⟩
    rw [end_set]
    exact key (.int r0) d (.int r2) 1 (by decide) rfl rfl
  · refine ws_sub ?_
    refine wp_eq (a := d) (S := S4 ++ [.lst [.int r0, .int r1, .int r2]]) rfl ?_
    refine wp_eq (a := .loc S4.length) (S := S4 ++ [.lst [.int r0, .int r1, .int r2]]) rfl ?_
    refine wp_eq (a := .int 2) (S := S4 ++ [.lst [.int r0, .int r1, .int r2]]) rfl ?_
    refine ⟨_, _, _, 2, rfl, rfl, end_at', rfl, ?_⟩
    rw [end_set]
    exact key (.int r0) (.int r1) d 2 (by decide) rfl rfl
end K07
set_option Elab.async false
set_option linter.all false
set_option maxRecDepth 100000
set_option maxHeartbeats 4000000
namespace K07
open PySem PV
def oddN : List D := [.non, .bl true, .bl false, .int (-1), .int (-(10 ^ 30)), .tup [.int 1], .lst [.int 2], .dic0]
def oddT (d : D) : List D := [d, .str "3", .str "ab", .str ""]
theorem oddN_ok {d : D} (h : d ∈ oddN) : Vl d ∧ lowB d 0 = false ∧ lowB d 1 = false := by
  simp only [oddN, List.mem_cons, List.not_mem_nil, or_false] at h
  rcases h with rfl | rfl | rfl | rfl | rfl | rfl | rfl | rfl
  · exact ⟨.non, rfl, rfl⟩
  · exact ⟨.bl _, rfl, rfl⟩
  · exact ⟨.bl _, rfl, rfl⟩
  · exact ⟨.int _, rfl, rfl⟩
  · exact ⟨.int _, by simp [lowB], by simp [lowB]⟩
  · exact ⟨.tup fun _ => rfl, rfl, rfl⟩
  · exact ⟨.lst fun _ => rfl, rfl, rfl⟩
  · exact ⟨.dic0, rfl, rfl⟩
theorem oddT_ok {d e : D} (h : d ∈ oddN) (he : e ∈ oddT d) : Vl e ∧ lowB e 0 = false ∧ lowB e 1 = false := by
  simp only [oddT, List.mem_cons, List.not_mem_nil, or_false] at he
  rcases he with rfl | rfl | rfl | rfl
  · exact oddN_ok h
  all_goals exact ⟨.str _, rfl, rfl⟩
theorem x_rb {nm : String} {F : Fn} {g : G2} {d : D} {S : Sto} {c : String} {fs : List (String × D)} (hF : F [lap5, d] S = .ex c fs S) (h : (∃ i, d = .int i) ∨ (∃ b, d = .bl b) ∨ ∃ T, tyD S d = some (.b T) ∧ ZL.numS T nm = some false) : rbinX "Lap" nm F g d lap5 S = .ex c fs S := by
  have hi : insOf S lap5 = some ("Lap", [("pits", .tup [.int 5, .int 0, .int 2])]) := rfl
  unfold rbinX
  rw [hi]
  simp only [if_true]
  rcases h with ⟨i, rfl⟩ | ⟨b, rfl⟩ | ⟨T, h1, h2⟩
  · simp only [hF]; rfl
  · simp only [hF]; rfl
  · cases d <;> simp only [hF] <;> first | rfl | (rw [h1]; simp only [h2, if_true]; rfl)
theorem ty_div {d e : D} (h : d ∈ oddN) (he : e ∈ oddT d) (S : Sto) : (∃ i, e = .int i) ∨ (∃ b, e = .bl b) ∨ ∃ T, tyD S e = some (.b T) ∧ ZL.numS T "floordiv" = some false := by
  simp only [oddN, List.mem_cons, List.not_mem_nil, or_false] at h
  simp only [oddT, List.mem_cons, List.not_mem_nil, or_false] at he
  rcases he with rfl | rfl | rfl | rfl
  · rcases h with rfl | rfl | rfl | rfl | rfl | rfl | rfl | rfl
    · exact .inr (.inr ⟨_, rfl, by decide +kernel⟩)
    · exact .inr (.inl ⟨_, rfl⟩)
    · exact .inr (.inl ⟨_, rfl⟩)
    · exact .inl ⟨_, rfl⟩
    · exact .inl ⟨_, rfl⟩
    · exact .inr (.inr ⟨_, rfl, by decide +kernel⟩)
    · exact .inr (.inr ⟨_, rfl, by decide +kernel⟩)
    · exact .inr (.inr ⟨_, rfl, by decide +kernel⟩)
  all_goals exact .inr (.inr ⟨_, rfl, by decide +kernel⟩)
theorem ty_mod {d : D} (h : d ∈ oddN) (S : Sto) : (∃ i, d = .int i) ∨ (∃ b, d = .bl b) ∨ ∃ T, tyD S d = some (.b T) ∧ ZL.numS T "mod" = some false := by
  simp only [oddN, List.mem_cons, List.not_mem_nil, or_false] at h
  rcases h with rfl | rfl | rfl | rfl | rfl | rfl | rfl | rfl
  · exact .inr (.inr ⟨_, rfl, by decide +kernel⟩)
  · exact .inr (.inl ⟨_, rfl⟩)
  · exact .inr (.inl ⟨_, rfl⟩)
  · exact .inl ⟨_, rfl⟩
  · exact .inl ⟨_, rfl⟩
  · exact .inr (.inr ⟨_, rfl, by decide +kernel⟩)
  · exact .inr (.inr ⟨_, rfl, by decide +kernel⟩)
  · exact .inr (.inr ⟨_, rfl, by decide +kernel⟩)
abbrev nb (d : D) : D := .tup [.str "number", d]
theorem rep5 {d e : D} (h : d ∈ oddN) (he : e ∈ oddT d) (S : Sto) : ∃ z, reprM (reprQ (reprI reprB)) [.lst [nb e, nb d, nb e, nb e, nb e]] S = .ok (.str z) S := by
  simp only [oddN, List.mem_cons, List.not_mem_nil, or_false] at h
  simp only [oddT, List.mem_cons, List.not_mem_nil, or_false] at he
  rcases h with rfl | rfl | rfl | rfl | rfl | rfl | rfl | rfl <;> rcases he with rfl | rfl | rfl | rfl <;> exact rep_m rfl (by decide +kernel) S
def oddK : List D := [.int 3, .int (-1), .non, .bl true, .bl false, .str "0", .tup [.int 0], .lst [.int 1], .dic0, .int (10 ^ 20)]
theorem oddK_ok {d : D} (h : d ∈ oddK) : Vl d ∧ btw d 0 2 = false := by
  simp only [oddK, List.mem_cons, List.not_mem_nil, or_false] at h
  rcases h with rfl | rfl | rfl | rfl | rfl | rfl | rfl | rfl | rfl | rfl
  · exact ⟨.int _, rfl⟩
  · exact ⟨.int _, rfl⟩
  · exact ⟨.non, rfl⟩
  · exact ⟨.bl _, rfl⟩
  · exact ⟨.bl _, rfl⟩
  · exact ⟨.str _, rfl⟩
  · exact ⟨.tup fun _ => rfl, rfl⟩
  · exact ⟨.lst fun _ => rfl, rfl⟩
  · exact ⟨.dic0, rfl⟩
  · exact ⟨.int _, by simp [btw]⟩
theorem oddK_rep {d : D} (h : d ∈ oddK) (S : Sto) : ∃ z, reprM (reprQ (reprI reprB)) [.tup [.str "pit", d]] S = .ok (.str z) S := by
  have e : reprM (reprQ (reprI reprB)) [.tup [.str "pit", d]] S = reprQ (reprI reprB) [.tup [.str "pit", d]] S := rfl
  rw [e]
  simp only [oddK, List.mem_cons, List.not_mem_nil, or_false] at h
  rcases h with rfl | rfl | rfl | rfl | rfl | rfl | rfl | rfl | rfl | rfl
  case inr.inr.inr.inr.inr.inr.inr.inl => exact rep_b rfl rfl (by decide +kernel) S
  all_goals exact rep_q rfl (by decide +kernel) S
noncomputable abbrev neL : G2 := neO [("Lap", F_LapD_eqD)] ["Lap"] (eqG true)
theorem no_s (z : Str) (S : Sto) : neL (.str z) (.str z) S = .ok (.bl false) S := (show neL (.str z) (.str z) S = eqG true (.str z) (.str z) S from rfl).trans (ne_str z S)
theorem no_t (S : Sto) : neL (nb (.int 0)) (nb (.int 0)) S = .ok (.bl false) S := by
  show eqG true (nb (.int 0)) (nb (.int 0)) S = _
  unfold eqG
  rw [show eqD (nb (.int 0)) (nb (.int 0)) = some true by decide +kernel]
  rfl
theorem no_l (S : Sto) : neL lap5 lap5 S = .ok (.bl false) S := by
  show notB (F_LapD_eqD [lap5, lap5] S) = _
  rw [e_eq5]
  rfl
theorem ix_lap {d : D} (hv : Vl d) (hb : btw d 0 2 = false) (S : Sto) : ixB "Lap" F_LapD_getitemD lap5 d S = .ex "BadPit" [("value", d)] S := by
  show F_LapD_getitemD [lap5, d] S = _
  exact x_at hv hb
local macro_rules | `(tactic| k_updF) => `(tactic| repeat (first | simp -dsimp -implicitDefEqProofs only [oD_s, oD_n] | k_upd))
theorem w_seeds {S : Sto} {Q : D → Sto → Prop} {E : XQ} (h : Bag S 0) (q : ∀ S', SameBag 0 S S' → Bag S' 0 → Q (.bl true) S') : Wp (F_law_seeds_right [.loc 0, lap5] S) Q E := by
  refine wp_dfn rfl ?_
  k_updF
  refine wp_pow (by decide) ?_
  k_updF
  refine wp_eq (a := .dic0) (S := S) rfl ?_
  k_updF
  refine pB h (Nat.le_of_ble_eq_true rfl) (Nat.le_of_ble_eq_true rfl) fun i d S1 hd s1 p1 => ?_
  have hd : d ∈ oddN := pick_mem hd
  k_updF
  refine pB p1 (Nat.le_of_ble_eq_true rfl) (Nat.le_of_ble_eq_true rfl) fun i e S2 he s2 p2 => ?_
  have he : e ∈ oddT d := pick_mem he
  obtain ⟨v1, v2, v3⟩ := oddN_ok hd
  obtain ⟨u1, u2, u3⟩ := oddT_ok hd he
  k_updF
  refine wp_lamc ?_
  k_updF
  refine wp_exq (x_rb (x_rdiv u1 u2) (ty_div hd he _)) ?_
  refine wp_eq h_num ?_
  k_updF
  refine wp_mthQ end_at' ?_
  k_updF
  refine wp_lamc ?_
  k_updF
  refine wp_exq (x_rb (x_rmod v1 v2) (ty_mod hd _)) ?_
  refine wp_eq h_num ?_
  k_updF
  refine wp_appEnd (Nat.le_of_ble_eq_true rfl) ?_
  k_updF
  refine wp_mthQ end_at' ?_
  k_updF
  refine wp_lamc ?_
  k_updF
  refine wp_exq (x_laid u1 u2) ?_
  refine wp_eq h_num ?_
  k_updF
  refine wp_appEnd (Nat.le_of_ble_eq_true rfl) ?_
  k_updF
  refine wp_mthQ end_at' ?_
  k_updF
  refine wp_lamc ?_
  k_updF
  refine wp_exq (S := S2 ++ [.lst [nb e, nb d, nb e]]) (c := "BadNumber") (fs := [("value", e)]) ?_ ?_
  · show (match F_Lap_each [lap5, e] (S2 ++ [.lst [nb e, nb d, nb e]]) with
      | .ex c2 fs2 S3 => if c2 = "BadNumber" then Out.ex c2 fs2 S3 else .no
      | _ => .no) = _
    rw [x_each u1 u2]
    rfl
  refine wp_eq h_num ?_
  k_updF
  refine wp_appEnd (Nat.le_of_ble_eq_true rfl) ?_
  k_updF
  refine wp_mthQ end_at' ?_
  k_updF
  refine wp_lamc ?_
  k_updF
  refine wp_exq (x_last u1 u3) ?_
  refine wp_eq h_num ?_
  k_updF
  refine wp_appEnd (Nat.le_of_ble_eq_true rfl) ?_
  k_updF
  obtain ⟨z, hz⟩ := rep5 hd he (S2 ++ [.dead])
  refine wp_frzEnd ?_
  k_updF
  refine wp_eq hz ?_
  k_updF
  refine wp_eq hz ?_
  k_updF
  refine wp_eq (no_s z _) ?_
  k_updF
  refine wp_lamc ?_
  k_updF
  refine wp_exq (x_last (d := .int 0) (.int 0) rfl) ?_
  refine wp_eq h_num ?_
  k_updF
  refine wp_eq (no_t _) ?_
  k_updF
  refine wp_lamc ?_
  k_updF
  refine wp_exq (x_laid (d := lap5) (.lap [5, 0, 2]) rfl) ?_
  refine wp_eq h_num ?_
  k_updF
  refine wp_eq (a := .str "number") (S := S2 ++ [.dead]) rfl ?_
  k_updF
  refine wp_eq (no_s _ _) ?_
  k_updF
  refine wp_eq (a := lap5) (S := S2 ++ [.dead]) rfl ?_
  k_updF
  refine wp_eq (no_l _) ?_
  k_updF
  refine wp_eq (a := .dic0) (S := S2 ++ [.dead]) rfl ?_
  k_updF
  refine wp_pow (by decide) ?_
  k_updF
  refine pB p2.app (Nat.le_of_ble_eq_true rfl) (Nat.le_of_ble_eq_true rfl) fun i kk S3 hk s3 p3 => ?_
  have hk : kk ∈ oddK := pick_mem hk
  obtain ⟨k1, k2⟩ := oddK_ok hk
  obtain ⟨T3, rfl, sT3⟩ := samebag_app p2 s3
  have pT3 := bag_cut (by rw [sT3.len]; exact p2.lt) p3
  obtain ⟨z2, hz2⟩ := oddK_rep hk (T3 ++ [.dead])
  k_updF
  refine wp_lamc ?_
  k_updF
  refine wp_exq (ix_lap k1 k2 _) ?_
  refine wp_eq h_pit ?_
  k_updF
  refine wp_eq hz2 ?_
  k_updF
  refine wp_eq hz2 ?_
  k_updF
  refine wp_eqv (eqD_str _ _) ?_
  k_updF
  refine gq_bag ((s1.trans s2).trans sT3) rfl ?_
  rw [decide_eq_true trivial]
  exact q T3 ((s1.trans s2).trans sT3) pT3
end K07
set_option Elab.async false
set_option linter.all false
set_option maxRecDepth 100000
set_option maxHeartbeats 4000000
namespace K07
open PySem PV
def oddS : List D := [.non, .bl true, .int 6, .int (-1), .str "0", .tup [], .lst [], .dic0]
theorem oddS_ok {d : D} (h : d ∈ oddS) : Vl d ∧ btw d 0 5 = false := by
  simp only [oddS, List.mem_cons, List.not_mem_nil, or_false] at h
  rcases h with rfl | rfl | rfl | rfl | rfl | rfl | rfl | rfl
  · exact ⟨.non, rfl⟩
  · exact ⟨.bl _, rfl⟩
  · exact ⟨.int _, rfl⟩
  · exact ⟨.int _, rfl⟩
  · exact ⟨.str _, rfl⟩
  · exact ⟨.tup fun _ => rfl, rfl⟩
  · exact ⟨.lst fun _ => rfl, rfl⟩
  · exact ⟨.dic0, rfl⟩
theorem oddS_rep {d : D} (h : d ∈ oddS) (S : Sto) : ∃ z, reprM (reprI reprB) [.lst [.tup [.str "nothing", .non], .tup [.str "pit", d]]] S = .ok (.str z) S := by
  simp only [oddS, List.mem_cons, List.not_mem_nil, or_false] at h
  rcases h with rfl | rfl | rfl | rfl | rfl | rfl | rfl | rfl <;> exact rep_m rfl (by decide +kernel) S
theorem e_law {cs : List Int} (h : cs.length ≤ 63) : ∃ S', F_law [.src (cs.map .int)] [] = .ok (.bl true) S' := by
  refine law_of (wp_dfn rfl ?_)
  (repeat k_upd)
  refine w_bag h fun S b0 len0 => ?_
  (repeat k_upd)
  refine ws_for (fun j ρ S' => Bag S' 0 ∧ ∃ x2, ρ = [some (.src (cs.map .int)), some (.loc 0), x2, none, none]) (wp_eq (a := (ups 0 8, none)) rfl ?_)
  refine ⟨fun _ _ _ _ => trivial, ⟨b0, _, rfl⟩, ?_, ?_⟩
  · rintro j z hz ρ S1 ⟨b1, x2, rfl⟩
    refine ⟨_, rfl, ?_⟩
    (repeat k_upd)
    refine w_pits b1 fun S2 s2 b2 => ?_
    (repeat k_upd)
    refine wp_eq (mk5 S2) ?_
    (repeat k_upd)
    refine w_seeds b2 fun S3 s3 b3 => ?_
    (repeat k_upd)
    exact ⟨b3, _, rfl⟩
  rintro ρ S1 ⟨b1, x2, rfl⟩
  (repeat k_upd)
  refine wp_eq (a := .dic0) (S := S1) rfl ?_
  (repeat k_upd)
  refine pB b1 (Nat.le_of_ble_eq_true rfl) (Nat.le_of_ble_eq_true rfl) fun i d S2 hd s2 b2 => ?_
  have hd : d ∈ oddS := pick_mem hd
  obtain ⟨v1, v2⟩ := oddS_ok hd
  obtain ⟨z, hz⟩ := oddS_rep hd (S2 ++ [.dead])
  (repeat k_upd)
  refine wp_lamc ?_
  (repeat k_upd)
  refine wp_exq x_none ?_
  refine wp_eq h_nothing ?_
  (repeat k_upd)
  refine wp_mthQ end_at' ?_
  (repeat k_upd)
  refine wp_lamc ?_
  (repeat k_upd)
  refine wp_exq (x_lap (pre := []) (d := d) (Nat.le_of_ble_eq_true rfl) rfl rfl (fun x hx => by cases hx) .nil v1 (.inl v2)) ?_
  refine wp_eq h_pit ?_
  (repeat k_upd)
  refine wp_appEnd (Nat.le_of_ble_eq_true rfl) ?_
  (repeat k_upd)
  refine wp_frzEnd ?_
  (repeat k_upd)
  refine wp_eq hz ?_
  (repeat k_upd)
  refine wp_eq hz ?_
  (repeat k_upd)
  refine wp_eqv (eqD_str _ _) ?_
  (repeat k_upd)
  rw [decide_eq_true trivial]
  exact gq_nil rfl rfl
end K07
open PySem PySem.W PySem.Calls PyProof.Rows
set_option maxRecDepth 100000
set_option maxHeartbeats 0
theorem PySem.Challenge.cw_lapseeds_k07_laps_refused_holds : PySem.Challenge.rw_lapseeds_k07_laps_refused.Holds := by
  refine K07.pre fun said => ?_
  refine HX.head_seg (r := OpenLaw.row PySem.Challenge.rw_lapseeds_k07_laps_refused) (q := view (OpenLaw.row PySem.Challenge.rw_lapseeds_k07_laps_refused).prog [20]) (H := K07.hkF) (ob := ZH.obF K07H.as0) (loose := K07.loose) (d := HandSHeadRun.topDef (OpenLaw.row PySem.Challenge.rw_lapseeds_k07_laps_refused).prog 20) (kwd := []) (F := K07H.S1) ZH.obF_eq
    K07.pre0 (fun s => by kernel_rfl) K07H.run K07.l1 K07.l2 K07H.l3 (by kernel_rfl) (by kernel_rfl) (by kernel_rfl) (by rfl) (by first | assumption | decide +kernel) (by decide +kernel) K07.preB ?hw ?hc
  case hw => w_witness2
  case hc =>
    refine ZL.walk_ofT (l := PySem.Challenge.rw_lapseeds_k07_laps_refused) (n := 63) (k := 9) rfl (by decide) (by kernel_rfl) ⟨rfl, by decide, by decide⟩ ?F
    intro w mg fa h Y G hmg0
    obtain ⟨Ka, Xa, c⟩ := Y
    have hmg : mg ("law" : PySem.Str) = some (.ref fa) := by
      have e : (HandSHeadRun.topDef (OpenLaw.row PySem.Challenge.rw_lapseeds_k07_laps_refused).prog 20).name = ("law" : PySem.Str) := by kernel_rfl
      rw [← e]
      exact hmg0
    have c : ZH.SaysL K07.lams K07.chk K07.fn Ka := c
    have KX : (ZH.dropT K07.lams Ka).In h := ZH.dropT_in Xa
    have T := K07.tx KX G c.z
    have efa : fa = He.ga (ZH.dropT K07.lams Ka) "law" := by
      have z := T.glo "law" (by decide +kernel)
      rw [hmg] at z
      exact Value.ref.inj (Option.some.inj z)
    subst efa
    exact ⟨ZH.dropT K07.lams Ka, PV.csOf (ZH.dropT K07.lams Ka) K07.lams, PV.spEnd (ZH.dropT K07.lams Ka) K07.F_law, KX, PV.csOf_all KX Xa c.t,
      fun H a ns hl hH hS => (K07.e_law hl).elim fun S' e => PV.end_atT hS (PV.csOf_told c.t hH) e, fun base _ _ hB => PV.end_of (K07.w_law T (PV.csOf_lam KX Xa c.t hB))⟩
